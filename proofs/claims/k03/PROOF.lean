import PyProof.Rows.All
import HandS.ForMost
import HandS.ForExc
import HandS.ExcCtx
import HandS.Style
import HandS.Walk
import HandS.IsInst
import HandS.TupAny
import HandS.TupMul
import HandS.Deep
import HandS.Conv
import HandS.Wide
import KE.SortData
import HandS.More
import KE.KDictKeyed
import HandS.Small
import KE.GoesEnum
import HandS.NoneIn
import HandS.TupSets
import PyProof.Rows.StrRev
import HandS.HotCalls
import PyProof.ZipIter
import HandS.ExcIs
import HandS.StrSplit
import PyProof.StrOps2
import KE.KDictPairs
import HandS.DictComp
import HandS.TupLe
import HandS.SetFor
import PySem.Challenge.RW_twintorn_k03_standings_by_hand
set_option Elab.async false
set_option linter.all false
set_option maxRecDepth 100000
/-! The layer over data: what a piece of the text computes, told of data alone (no heap). -/
namespace Tt
open PySem PySem.Spec PyProof.Rows L2

abbrev D := PyData
/-- a text by its signs -/
abbrev S (l : List Nat) : Str := ⟨l.toArray⟩
/-- a dict of texts, each True (it is walked and asked, never changed any more) -/
def dictD (ks : List Str) : D := .dict (ks.map fun k => (.str k, .bool true))
def dictO (ks : List Str) : HO := .dK (ks.map fun k => (Sum.inr k, V.bl true))

/-- I lies within H (a dict may be locked there) -/
def Sub (I H : Hp) : Prop := ∀ a o, I a = some o → H a = some o ∨ ((∃ kvs, o = .dK kvs) ∧ ∃ b, H a = some (.frz b o))
theorem Sub.refl (H : Hp) : Sub H H := fun _ _ h => .inl h
theorem Sub.same {I J H : Hp} (a : Same I J) (b : Sub J H) : Sub I H := fun x o h => b x o (a x o h)
theorem Sub.grow {I H H' : Hp} (a : Sub I H) (b : Same H H') : Sub I H' := fun x o h => (a x o h).imp (b x o) fun ⟨k, c, e⟩ => ⟨k, c, b x _ e⟩
theorem Sub.of {I H : Hp} (a : Same I H) : Sub I H := fun x o h => .inl (a x o h)
theorem Sub.there {I H : Hp} (a : Sub I H) {x : Addr} {o : HO} (h : I x = some o) : ∃ u, H x = some u := by
  rcases a x o h with e | ⟨_, b, e⟩
  · exact ⟨_, e⟩
  · exact ⟨_, e⟩
theorem Sub.nn {I H : Hp} (a : Sub I H) {x : Addr} (h : H x = none) : I x = none := by
  cases e : I x with
  | none => rfl
  | some o =>
    obtain ⟨u, e2⟩ := a.there e
    rw [h] at e2
    cases e2

theorem Sub.lst {I H : Hp} (s : Sub I H) {a : Addr} {xs : List V} (h : I a = some (.lst xs)) : H a = some (.lst xs) := by
  rcases s a _ h with e | ⟨⟨kvs, z⟩, _⟩
  · exact e
  · cases z
theorem Sub.tup {I H : Hp} (s : Sub I H) {a : Addr} {xs : List V} (h : I a = some (.tup xs)) : H a = some (.tup xs) := by
  rcases s a _ h with e | ⟨⟨kvs, z⟩, _⟩
  · exact e
  · cases z
theorem Sub.frz {I H : Hp} (s : Sub I H) {a : Addr} {o : Obj} {u : HO} (h : I a = some (.frz o u)) : H a = some (.frz o u) := by
  rcases s a _ h with e | ⟨⟨kvs, z⟩, _⟩
  · exact e
  · cases z
mutual
/-- v stands for d; lists and tuples stand in I -/
inductive Dq (I : Hp) : V → D → Prop
  | non : Dq I .non .none
  | bl (b : Bool) : Dq I (.bl b) (.bool b)
  | int (i : Int) : Dq I (.int i) (.int i)
  | str (x : Str) : Dq I (.str x) (.str x)
  | lst {a : Addr} {xs : List V} {ds : List D} : I a = some (.lst xs) → DqAll I xs ds → Dq I (.ref a) (.list ds)
  | tup {a : Addr} {xs : List V} {ds : List D} : I a = some (.tup xs) → DqAll I xs ds → Dq I (.ref a) (.tuple ds)
inductive DqAll (I : Hp) : List V → List D → Prop
  | nil : DqAll I [] []
  | cons {v : V} {vs : List V} {d : D} {ds : List D} : Dq I v d → DqAll I vs ds → DqAll I (v :: vs) (d :: ds)
end
mutual
theorem Dq.same {I J : Hp} (e : Same I J) : ∀ {v : V} {d : D}, Dq I v d → Dq J v d
  | _, _, .non => .non
  | _, _, .bl b => .bl b
  | _, _, .int i => .int i
  | _, _, .str x => .str x
  | _, _, .lst h t => .lst (e _ _ h) (DqAll.same e t)
  | _, _, .tup h t => .tup (e _ _ h) (DqAll.same e t)
theorem DqAll.same {I J : Hp} (e : Same I J) : ∀ {vs : List V} {ds : List D}, DqAll I vs ds → DqAll J vs ds
  | _, _, .nil => .nil
  | _, _, .cons h t => .cons (Dq.same e h) (DqAll.same e t)
end
mutual
theorem Dq.sub {I H : Hp} (s : Sub I H) : ∀ {v : V} {d : D}, Dq I v d → Dq H v d
  | _, _, .non => .non
  | _, _, .bl b => .bl b
  | _, _, .int i => .int i
  | _, _, .str x => .str x
  | _, _, .lst h t => .lst (s.lst h) (DqAll.sub s t)
  | _, _, .tup h t => .tup (s.tup h) (DqAll.sub s t)
theorem DqAll.sub {I H : Hp} (s : Sub I H) : ∀ {vs : List V} {ds : List D}, DqAll I vs ds → DqAll H vs ds
  | _, _, .nil => .nil
  | _, _, .cons h t => .cons (Dq.sub s h) (DqAll.sub s t)
end
mutual
/-- as the hand layer tells it -/
theorem Dq.dp {K : PySem.W.Frag} {I : Hp} : ∀ {v : V} {d : D}, Dq I v d → Dp K I v d
  | _, _, .non => .non
  | _, _, .bl b => .bl b
  | _, _, .int i => .int i
  | _, _, .str x => .str x
  | _, _, .lst h t => .lst (SqL.of h) (DqAll.dp t)
  | _, _, .tup h t => .tup (SqT.of h) (DqAll.dp t)
theorem DqAll.dp {K : PySem.W.Frag} {I : Hp} : ∀ {vs : List V} {ds : List D}, DqAll I vs ds → DpAll K I vs ds
  | _, _, .nil => .nil
  | _, _, .cons h t => .cons (Dq.dp h) (DqAll.dp t)
end
theorem DqAll.len {I : Hp} : ∀ {vs : List V} {ds : List D}, DqAll I vs ds → vs.length = ds.length
  | _, _, .nil => rfl
  | _, _, .cons _ t => by rw [List.length_cons, List.length_cons, DqAll.len t]
theorem DqAll.get {I : Hp} : ∀ {vs : List V} {ds : List D} {i : Nat} {d : D}, DqAll I vs ds → ds[i]? = some d → ∃ v, vs[i]? = some v ∧ Dq I v d
  | _, _, _, _, .nil, e => by simp at e
  | _, _, 0, _, .cons h _, e => by simp at e; subst e; exact ⟨_, rfl, h⟩
  | _, _, i + 1, d, .cons _ t, e => by
    obtain ⟨v, h1, h2⟩ := DqAll.get (i := i) (d := d) t (by simpa using e)
    exact ⟨v, by simpa using h1, h2⟩
theorem DqAll.getV {I : Hp} : ∀ {vs : List V} {ds : List D} {i : Nat} {v : V}, DqAll I vs ds → vs[i]? = some v → ∃ d, ds[i]? = some d ∧ Dq I v d
  | _, _, _, _, .nil, e => by simp at e
  | _, _, 0, _, .cons h _, e => by simp at e; subst e; exact ⟨_, rfl, h⟩
  | _, _, i + 1, v, .cons _ t, e => by
    obtain ⟨d, h1, h2⟩ := DqAll.getV (i := i) (v := v) t (by simpa using e)
    exact ⟨d, by simpa using h1, h2⟩
theorem DqAll.app {I : Hp} : ∀ {vs ws : List V} {ds es : List D}, DqAll I vs ds → DqAll I ws es → DqAll I (vs ++ ws) (ds ++ es)
  | _, _, _, _, .nil, s => s
  | _, _, _, _, .cons r t, s => .cons r (DqAll.app t s)
theorem DqAll.take {I : Hp} : ∀ {vs : List V} {ds : List D} (n : Nat), DqAll I vs ds → DqAll I (vs.take n) (ds.take n)
  | _, _, 0, _ => .nil
  | _, _, _ + 1, .nil => .nil
  | _, _, n + 1, .cons r t => .cons r (DqAll.take n t)
theorem DqAll.drop {I : Hp} : ∀ {vs : List V} {ds : List D} (n : Nat), DqAll I vs ds → DqAll I (vs.drop n) (ds.drop n)
  | _, _, 0, r => r
  | _, _, _ + 1, .nil => .nil
  | _, _, n + 1, .cons _ t => DqAll.drop n t
theorem DqAll.set {I : Hp} {v : V} {d : D} (h : Dq I v d) : ∀ {vs : List V} {ds : List D} (n : Nat), DqAll I vs ds → DqAll I (vs.set n v) (ds.set n d)
  | _, _, _, .nil => .nil
  | _, _, 0, .cons _ t => .cons h t
  | _, _, n + 1, .cons r t => .cons r (DqAll.set h n t)
theorem DqAll.erase {I : Hp} : ∀ {vs : List V} {ds : List D} (n : Nat), DqAll I vs ds → DqAll I (vs.eraseIdx n) (ds.eraseIdx n)
  | _, _, _, .nil => .nil
  | _, _, 0, .cons _ t => t
  | _, _, n + 1, .cons r t => .cons r (DqAll.erase n t)
theorem DqAll.dropLast {I : Hp} {vs : List V} {ds : List D} (h : DqAll I vs ds) : DqAll I vs.dropLast ds.dropLast := by
  rw [List.dropLast_eq_take, List.dropLast_eq_take, h.len]
  exact DqAll.take _ h
theorem DqAll.rev {I : Hp} : ∀ {vs : List V} {ds : List D}, DqAll I vs ds → DqAll I vs.reverse ds.reverse
  | _, _, .nil => .nil
  | _, _, .cons r t => by
    rw [List.reverse_cons, List.reverse_cons]
    exact DqAll.app (DqAll.rev t) (.cons r .nil)
theorem DqAll.ints {I : Hp} : ∀ {vs : List V} {ns : List Int}, DqAll I vs (ns.map .int) → vs = ns.map V.int
  | _, [], .nil => rfl
  | _, _ :: ns, .cons r t => by cases r; rw [DqAll.ints t]; rfl
theorem DqAll.mkInts {I : Hp} : ∀ (ns : List Int), DqAll I (ns.map V.int) (ns.map .int)
  | [] => .nil
  | n :: ns => .cons (.int n) (DqAll.mkInts ns)
theorem DqAll.strs {I : Hp} : ∀ {vs : List V} {ns : List Str}, DqAll I vs (ns.map .str) → vs = ns.map V.str
  | _, [], .nil => rfl
  | _, _ :: ns, .cons r t => by cases r; rw [DqAll.strs t]; rfl
theorem DqAll.mkStrs {I : Hp} : ∀ (ns : List Str), DqAll I (ns.map V.str) (ns.map .str)
  | [] => .nil
  | n :: ns => .cons (.str n) (DqAll.mkStrs ns)
theorem DqAll.bls {I : Hp} : ∀ {vs : List V} {ns : List Bool}, DqAll I vs (ns.map .bool) → vs = ns.map V.bl
  | _, [], .nil => rfl
  | _, _ :: ns, .cons r t => by cases r; rw [DqAll.bls t]; rfl

/-- the script, told apart from other lists -/
def scriptD (ns : List Int) : D := .dict [(.none, .list (ns.map .int))]
/-- the script stands at a: locked, or a constant of the world's -/
def ScrAt (K : PySem.W.Frag) (I : Hp) (a : Addr) (ns : List Int) : Prop := (∃ o, I a = some (.frz o (.lst (ns.map .int)))) ∨ SqL K (fun _ => none) a (ns.map .int)
theorem ScrAt.same {K : PySem.W.Frag} {I J : Hp} {a : Addr} {ns : List Int} (e : Same I J) (h : ScrAt K I a ns) : ScrAt K J a ns := h.imp (fun ⟨o, h⟩ => ⟨o, e a _ h⟩) id
theorem ScrAt.sq {K : PySem.W.Frag} {I H : Hp} {a : Addr} {ns : List Int} (s : Sub I H) (h : ScrAt K I a ns) : SqL K H a (ns.map .int) := by
  rcases h with ⟨o, h⟩ | h
  · exact .inl (.inr ⟨o, s.frz h⟩)
  · rcases h with h | h
    · rcases h with h | ⟨o, h⟩ <;> cases h
    · exact .inr h
/-- v stands for d -/
structure Rv (K : PySem.W.Frag) (I : Hp) (v : V) (d : D) : Prop where
  is : Dq I v d ∨ (∃ a ks o, v = .ref a ∧ d = dictD ks ∧ I a = some (.frz o (dictO ks))) ∨ ∃ a ns, v = .ref a ∧ d = scriptD ns ∧ ScrAt K I a ns
theorem Rv.same {K : PySem.W.Frag} {I J : Hp} {v : V} {d : D} (e : Same I J) (h : Rv K I v d) : Rv K J v d :=
  ⟨h.is.imp (Dq.same e) fun h => h.imp (fun ⟨a, ks, o, h1, h2, h3⟩ => ⟨a, ks, o, h1, h2, e a _ h3⟩) fun ⟨a, ns, h1, h2, h3⟩ => ⟨a, ns, h1, h2, h3.same e⟩⟩
/-- what is no dict -/
def nd : D → Bool
  | .dict _ => false
  | _ => true
theorem Rv.dp {K : PySem.W.Frag} {I : Hp} {v : V} {d : D} (h : Rv K I v d) (n : nd d = true) : Dq I v d := by
  rcases h.is with h | ⟨a, ks, _, _, rfl, _⟩ | ⟨a, ns, _, rfl, _⟩
  · exact h
  · cases n
  · cases n
theorem Rv.script {K : PySem.W.Frag} {I : Hp} {v : V} {ns : List Int} (h : Rv K I v (scriptD ns)) : ∃ a, v = .ref a ∧ ScrAt K I a ns := by
  rcases h.is with h | ⟨a, ks, _, _, e, _⟩ | ⟨a, ns', rfl, e, h⟩
  · cases h
  · unfold scriptD dictD at e
    cases ks with
    | nil => cases e
    | cons k r => cases e
  · unfold scriptD at e
    simp only [PyData.dict.injEq, List.cons.injEq, Prod.mk.injEq, PyData.list.injEq, and_true, true_and] at e
    have z : ns = ns' := List.map_inj_right (fun _ _ h => PyData.int.inj h) |>.mp e
    subst z
    exact ⟨a, rfl, h⟩
theorem Rv.dict {K : PySem.W.Frag} {I : Hp} {v : V} {ks : List Str} (h : Rv K I v (dictD ks)) : ∃ a o, v = .ref a ∧ I a = some (.frz o (dictO ks)) := by
  rcases h.is with h | ⟨a, ks', o, rfl, e, h⟩ | ⟨a, ns', rfl, e, h⟩
  · cases h
  · unfold dictD at e
    simp only [PyData.dict.injEq] at e
    have z : ks = ks' := List.map_inj_right (fun _ _ h => by simpa using h) |>.mp e
    subst z
    exact ⟨a, o, rfl, h⟩
  · unfold scriptD dictD at e
    cases ks with
    | nil => cases e
    | cons k r => cases e
theorem Rv.int {K : PySem.W.Frag} {I : Hp} {v : V} {i : Int} (h : Rv K I v (.int i)) : v = .int i := by cases h.dp rfl; rfl
theorem Rv.str {K : PySem.W.Frag} {I : Hp} {v : V} {i : Str} (h : Rv K I v (.str i)) : v = .str i := by cases h.dp rfl; rfl
theorem Rv.bl {K : PySem.W.Frag} {I : Hp} {v : V} {i : Bool} (h : Rv K I v (.bool i)) : v = .bl i := by cases h.dp rfl; rfl
theorem Rv.non {K : PySem.W.Frag} {I : Hp} {v : V} (h : Rv K I v .none) : v = .non := by cases h.dp rfl; rfl
theorem Rv.lst {K : PySem.W.Frag} {I : Hp} {v : V} {ds : List D} (h : Rv K I v (.list ds)) : ∃ a xs, v = .ref a ∧ I a = some (.lst xs) ∧ DqAll I xs ds := by cases h.dp rfl with | lst q t => exact ⟨_, _, rfl, q, t⟩
theorem Rv.tup {K : PySem.W.Frag} {I : Hp} {v : V} {ds : List D} (h : Rv K I v (.tuple ds)) : ∃ a xs, v = .ref a ∧ I a = some (.tup xs) ∧ DqAll I xs ds := by cases h.dp rfl with | tup q t => exact ⟨_, _, rfl, q, t⟩
theorem Rv.mkInt {K : PySem.W.Frag} {I : Hp} {i : Int} : Rv K I (.int i) (.int i) := ⟨.inl (.int i)⟩
theorem Rv.mkStr {K : PySem.W.Frag} {I : Hp} {i : Str} : Rv K I (.str i) (.str i) := ⟨.inl (.str i)⟩
theorem Rv.mkBl {K : PySem.W.Frag} {I : Hp} {i : Bool} : Rv K I (.bl i) (.bool i) := ⟨.inl (.bl i)⟩
theorem Rv.mkNon {K : PySem.W.Frag} {I : Hp} : Rv K I .non .none := ⟨.inl .non⟩
theorem Rv.mkL {K : PySem.W.Frag} {I : Hp} {a : Addr} {xs : List V} {ds : List D} (h : I a = some (.lst xs)) (t : DqAll I xs ds) : Rv K I (.ref a) (.list ds) := ⟨.inl (.lst h t)⟩
theorem Rv.mkT {K : PySem.W.Frag} {I : Hp} {a : Addr} {xs : List V} {ds : List D} (h : I a = some (.tup xs)) (t : DqAll I xs ds) : Rv K I (.ref a) (.tuple ds) := ⟨.inl (.tup h t)⟩

/-! ### what changes: objects that one holds alone -/
structure MO where
  φ : PySem.W.Frag → Hp → HO → Prop
  mono : ∀ {K I J o}, Same I J → φ K I o → φ K J o
/-- a list -/
def MO.lst (ds : List D) : MO := ⟨fun K I o => ∃ xs, o = .lst xs ∧ DqAll I xs ds, fun e ⟨xs, h, t⟩ => ⟨xs, h, DqAll.same e t⟩⟩
/-- a dict of texts, each True -/
def MO.dk (ks : List Str) : MO := ⟨fun _ _ o => o = dictO ks, fun _ h => h⟩
/-- what a slot holds: nothing told, data, an object of one's own at p, a list of such, a value as it is -/
inductive Sl where
  | no
  | va (d : D)
  | mo (p : Addr) (m : MO)
  | ll (p : Addr) (ps : List Addr) (ms : List MO)
  | rw (v : V)
def foot : Sl → List Addr
  | .mo p _ => [p]
  | .ll p ps _ => p :: ps
  | _ => []
def ft (ρ : List Sl) (i : Nat) : List Addr := ((ρ[i]?).map foot).getD []
def Mt (ρ : List Sl) (a : Addr) : Prop := ∃ i, a ∈ ft ρ i
theorem ft_at {ρ : List Sl} {i : Nat} {s : Sl} (h : ρ[i]? = some s) : ft ρ i = foot s := by unfold ft; rw [h]; rfl
theorem ft_no {ρ : List Sl} {i : Nat} (h : ρ[i]? = none) : ft ρ i = [] := by unfold ft; rw [h]; rfl
theorem ft_set {ρ : List Sl} {i j : Nat} {s : Sl} : ft (ρ.set i s) j = if i = j ∧ j < ρ.length then foot s else ft ρ j := by
  unfold ft
  rw [List.getElem?_set]
  by_cases e : i = j
  · subst e
    rw [if_pos rfl]
    by_cases l : i < ρ.length
    · rw [if_pos l, if_pos ⟨rfl, l⟩]; rfl
    · rw [if_neg l, if_neg fun q => l q.2, List.getElem?_eq_none (Nat.le_of_not_lt l)]
  · rw [if_neg e, if_neg fun q => e q.1]

def ObjAt (K : PySem.W.Frag) (I H : Hp) (q : Addr) (m : MO) : Prop := ∃ o, H q = some o ∧ m.φ K I o
def SlOk (K : PySem.W.Frag) (I H : Hp) : Option V → Sl → Prop
  | _, .no => True
  | some v, .va d => Rv K I v d
  | some v, .mo p m => v = .ref p ∧ ObjAt K I H p m
  | some v, .ll p ps ms => v = .ref p ∧ H p = some (.lst (ps.map .ref)) ∧ Paired (ObjAt K I H) ps ms
  | some v, .rw x => v = x
  | none, _ => False
/-- the slots -/
structure EnvOk (K : PySem.W.Frag) (I H : Hp) (σ : L2.St) (ρ : List Sl) : Prop where
  len : σ.length = ρ.length
  ok : ∀ (i : Nat) (s : Sl), ρ[i]? = some s → SlOk K I H ((σ[i]?).getD none) s
  nd : ∀ i : Nat, (ft ρ i).Nodup
  dj : ∀ (i j : Nat) (a : Addr), a ∈ ft ρ i → a ∈ ft ρ j → i = j
  out : ∀ (i : Nat) (a : Addr), a ∈ ft ρ i → I a = none
  sub : Sub I H

/-- new objects alone -/
structure Grow (I H I' H' : Hp) : Prop where
  ii : Same I I'
  hh : Same H H'
  sub : Sub I' H'
  fr : ∀ a o, H a = some o → I a = none → I' a = none
theorem Grow.refl {I H : Hp} (s : Sub I H) : Grow I H I H := ⟨Same.refl I, Same.refl H, s, fun _ _ _ h => h⟩
theorem Grow.trans {I H I1 H1 I2 H2 : Hp} (a : Grow I H I1 H1) (b : Grow I1 H1 I2 H2) : Grow I H I2 H2 :=
  ⟨a.ii.trans b.ii, a.hh.trans b.hh, b.sub, fun x o h n => b.fr x o (a.hh x o h) (a.fr x o h n)⟩
/-- a new object -/
theorem Grow.new {I H : Hp} {p : Addr} {o : HO} (s : Sub I H) (n : H p = none) : Grow I H (upd I p o) (upd H p o) :=
  ⟨fun a u h => by rw [upd_ne (ne_of_none h (s.nn n))]; exact h, fun a u h => by rw [upd_ne (ne_of_none h n)]; exact h,
    fun a u h => by
      by_cases e : a = p
      · subst e
        rw [upd_same] at h ⊢
        exact .inl h
      · rw [upd_ne e] at h ⊢
        exact s a u h,
    fun a u h m => by rw [upd_ne (ne_of_none h n)]; exact m⟩
/-- a new object that is not told of -/
theorem Grow.dark {I H : Hp} {p : Addr} {o : HO} (s : Sub I H) (n : H p = none) : Grow I H I (upd H p o) :=
  ⟨Same.refl I, fun a u h => by rw [upd_ne (ne_of_none h n)]; exact h, s.grow fun a u h => by rw [upd_ne (ne_of_none h n)]; exact h, fun _ _ _ m => m⟩

structure Step (I H : Hp) (M : Addr → Prop) (I' H' : Hp) (M' : Addr → Prop) : Prop where
  ii : Same I I'
  oth : ∀ a o, H a = some o → ¬ M a → H' a = some o
  fr : ∀ a o, H a = some o → I a = none → ¬ M a → I' a = none
  mm : ∀ a, M' a → M a ∨ H a = none
  al : ∀ a o, H a = some o → ∃ u, H' a = some u
theorem Step.refl {I H : Hp} {M : Addr → Prop} : Step I H M I H M := ⟨Same.refl I, fun _ _ h _ => h, fun _ _ _ n _ => n, fun _ h => .inl h, fun _ o h => ⟨o, h⟩⟩
theorem Step.trans {I H I1 H1 I2 H2 : Hp} {M M1 M2 : Addr → Prop} (a : Step I H M I1 H1 M1) (b : Step I1 H1 M1 I2 H2 M2) : Step I H M I2 H2 M2 := by
  have k : ∀ x o, H x = some o → ¬ M x → ¬ M1 x := fun x o h n m => by
    rcases a.mm x m with z | z
    · exact n z
    · rw [h] at z; cases z
  refine ⟨a.ii.trans b.ii, fun x o h n => b.oth x o (a.oth x o h n) (k x o h n), fun x o h m n => b.fr x o (a.oth x o h n) (a.fr x o h m n) (k x o h n), fun x m => ?_, fun x o h => ?_⟩
  · rcases b.mm x m with z | z
    · exact a.mm x z
    · refine .inr ?_
      cases e : H x with
      | none => rfl
      | some o =>
        obtain ⟨u, e2⟩ := a.al x o e
        rw [z] at e2
        cases e2
  · obtain ⟨u, e⟩ := a.al x o h
    exact b.al x u e
theorem Grow.step {I H I' H' : Hp} (g : Grow I H I' H') (M : Addr → Prop) : Step I H M I' H' M :=
  ⟨g.ii, fun x o h _ => g.hh x o h, fun x o h m _ => g.fr x o h m, fun _ h => .inl h, fun x o h => ⟨o, g.hh x o h⟩⟩
/-- nothing of one's own was changed -/
theorem Step.grow {I H I' H' : Hp} {M M' : Addr → Prop} (s : Step I H M I' H' M') (n : ∀ a, ¬ M a) (b : Sub I' H') : Grow I H I' H' :=
  ⟨s.ii, fun x o h => s.oth x o h (n x), b, fun x o h m => s.fr x o h m (n x)⟩

theorem ObjAt.grow {K : PySem.W.Frag} {I H I' H' : Hp} {q : Addr} {m : MO} (a : Same I I') (b : ∀ o, H q = some o → H' q = some o) (h : ObjAt K I H q m) : ObjAt K I' H' q m := by
  obtain ⟨o, h1, h2⟩ := h
  exact ⟨o, b o h1, m.mono a h2⟩
theorem paired_imp {α β : Type} {P Q : α → β → Prop} : ∀ {as : List α} {bs : List β}, (∀ a ∈ as, ∀ b, P a b → Q a b) → Paired P as bs → Paired Q as bs
  | _, _, _, .nil => .nil
  | _, _, f, .cons h t => .cons (f _ (List.mem_cons_self ..) _ h) (paired_imp (fun a m => f a (List.mem_cons_of_mem _ m)) t)
theorem SlOk.grow {K : PySem.W.Frag} {I H I' H' : Hp} (a : Same I I') : ∀ {v : Option V} {s : Sl}, (∀ q o, q ∈ foot s → H q = some o → H' q = some o) → SlOk K I H v s → SlOk K I' H' v s
  | none, .no, _, h => h
  | some _, .no, _, h => h
  | some _, .va _, _, h => Rv.same (K := K) a h
  | some _, .mo p _, b, ⟨h1, h2⟩ => ⟨h1, h2.grow a fun o => b p o (List.mem_singleton.mpr rfl)⟩
  | some _, .ll p ps _, b, ⟨h1, h2, h3⟩ => ⟨h1, b p _ (List.mem_cons_self ..) h2, paired_imp (fun q hq m h => h.grow a fun o => b q o (List.mem_cons_of_mem _ hq)) h3⟩
  | some _, .rw _, _, h => h
theorem paired_there {K : PySem.W.Frag} {I H : Hp} {a : Addr} : ∀ {ps : List Addr} {ms : List MO}, Paired (ObjAt K I H) ps ms → a ∈ ps → ∃ o, H a = some o
  | _, _, .nil, m => by cases m
  | _, _, .cons h t, m => by
    rcases List.mem_cons.mp m with rfl | m
    · obtain ⟨o, h, _⟩ := h
      exact ⟨o, h⟩
    · exact paired_there t m
theorem SlOk.there {K : PySem.W.Frag} {I H : Hp} {v : Option V} {s : Sl} {a : Addr} (h : SlOk K I H v s) (m : a ∈ foot s) : ∃ o, H a = some o := by
  cases s with
  | no => cases m
  | va d => cases m
  | rw x => cases m
  | mo p mo =>
    cases v with
    | none => exact h.elim
    | some v =>
      obtain ⟨_, o, h, _⟩ := h
      rw [List.mem_singleton.mp m]
      exact ⟨o, h⟩
  | ll p ps ms =>
    cases v with
    | none => exact h.elim
    | some v =>
      obtain ⟨_, h2, h3⟩ := h
      rcases List.mem_cons.mp m with rfl | m
      · exact ⟨_, h2⟩
      · exact paired_there h3 m
section
variable {K : PySem.W.Frag} {I H I' H' : Hp} {σ : L2.St} {ρ ρ' : List Sl}
theorem EnvOk.there (ok : EnvOk K I H σ ρ) {a : Addr} (m : Mt ρ a) : ∃ o, H a = some o := by
  obtain ⟨i, m⟩ := m
  cases e : ρ[i]? with
  | none => rw [ft_no e] at m; cases m
  | some s => rw [ft_at e] at m; exact (ok.ok i s e).there m
theorem EnvOk.grow (ok : EnvOk K I H σ ρ) (g : Grow I H I' H') : EnvOk K I' H' σ ρ :=
  ⟨ok.len, fun i s h => (ok.ok i s h).grow g.ii fun q o _ e => g.hh q o e, ok.nd, ok.dj, fun i a m => by
    obtain ⟨o, e⟩ := ok.there ⟨i, m⟩
    exact g.fr a o e (ok.out i a m), g.sub⟩
theorem EnvOk.at (ok : EnvOk K I H σ ρ) {i : Nat} {s : Sl} (h : ρ[i]? = some s) (n : s ≠ .no) : ∃ v, σ[i]? = some (some v) ∧ SlOk K I H (some v) s := by
  have q := ok.ok i s h
  cases e : (σ[i]?).getD none with
  | none =>
    rw [e] at q
    cases s <;> first | exact absurd rfl n | exact q.elim
  | some v =>
    rw [e] at q
    refine ⟨v, ?_, q⟩
    cases e2 : σ[i]? with
    | none => rw [e2] at e; cases e
    | some o => rw [e2] at e; exact congrArg some e
/-- m: nothing but new objects; else one's own may change, too -/
def Go (m : Bool) (K : PySem.W.Frag) (σ : L2.St) (ρ : List Sl) (I H : Hp) (ρ' : List Sl) (I' H' : Hp) : Prop :=
  if m = true then ρ' = ρ ∧ Grow I H I' H' else EnvOk K I' H' σ ρ' ∧ Step I H (Mt ρ) I' H' (Mt ρ') ∧ ∀ a, Mt ρ' a → Mt ρ a
theorem Go.env {m : Bool} (g : Go m K σ ρ I H ρ' I' H') (ok : EnvOk K I H σ ρ) : EnvOk K I' H' σ ρ' := by
  cases m with
  | true => obtain ⟨rfl, g⟩ := g; exact ok.grow g
  | false => exact g.1
theorem Go.step {m : Bool} (g : Go m K σ ρ I H ρ' I' H') : Step I H (Mt ρ) I' H' (Mt ρ') := by
  cases m with
  | true => obtain ⟨rfl, g⟩ := g; exact g.step _
  | false => exact g.2.1
theorem Go.mt {m : Bool} (g : Go m K σ ρ I H ρ' I' H') : ∀ a, Mt ρ' a → Mt ρ a := by
  cases m with
  | true => obtain ⟨rfl, g⟩ := g; exact fun _ h => h
  | false => exact g.2.2
theorem Go.ii {m : Bool} (g : Go m K σ ρ I H ρ' I' H') : Same I I' := g.step.ii
theorem Go.refl {m : Bool} (ok : EnvOk K I H σ ρ) : Go m K σ ρ I H ρ I H := by
  cases m with
  | true => exact ⟨rfl, Grow.refl ok.sub⟩
  | false => exact ⟨ok, Step.refl, fun _ h => h⟩
theorem Go.trans {m : Bool} {ρ2 : List Sl} {I2 H2 : Hp} (a : Go m K σ ρ I H ρ' I' H') (b : Go m K σ ρ' I' H' ρ2 I2 H2) : Go m K σ ρ I H ρ2 I2 H2 := by
  cases m with
  | true =>
    obtain ⟨rfl, a⟩ := a
    obtain ⟨rfl, b⟩ := b
    exact ⟨rfl, a.trans b⟩
  | false => exact ⟨b.1, a.2.1.trans b.2.1, fun x h => a.2.2 x (b.2.2 x h)⟩
theorem Go.of {m : Bool} (ok : EnvOk K I H σ ρ) (g : Grow I H I' H') : Go m K σ ρ I H ρ I' H' := by
  cases m with
  | true => exact ⟨rfl, g⟩
  | false => exact ⟨ok.grow g, g.step _, fun _ h => h⟩
theorem Go.grow {m : Bool} {I2 H2 : Hp} (a : Go m K σ ρ I H ρ' I' H') (ok : EnvOk K I H σ ρ) (g : Grow I' H' I2 H2) : Go m K σ ρ I H ρ' I2 H2 := a.trans (Go.of (a.env ok) g)
theorem Go.any {m : Bool} (g : Go true K σ ρ I H ρ' I' H') (ok : EnvOk K I H σ ρ) : Go m K σ ρ I H ρ' I' H' := by
  obtain ⟨rfl, g⟩ := g
  exact Go.of ok g
end

/-- what an expression gives: data, or (true) a new list of one's own -/
def RsOk (K : PySem.W.Frag) (H I' H' : Hp) (v : V) : Bool → D → Prop
  | false, d => Rv K I' v d
  | true, d => ∃ p xs ds, v = .ref p ∧ d = .list ds ∧ H p = none ∧ I' p = none ∧ H' p = some (.lst xs) ∧ DqAll I' xs ds
section
variable {K : PySem.W.Frag} {I H I' H' : Hp} {σ : L2.St} {ρ ρ' : List Sl} {m : Bool}
/-- one's own new list told of as data -/
theorem Go.freeze {p : Addr} {o : HO} (g : Go m K σ ρ I H ρ' I' H') (ok : EnvOk K I H σ ρ) (n : H p = none) (ni : I' p = none) (h : H' p = some o) : Go m K σ ρ I H ρ' (upd I' p o) H' := by
  have ij : Same I' (upd I' p o) := fun a u e => by rw [upd_ne (ne_of_none e ni)]; exact e
  have sj : Sub I' H' → Sub (upd I' p o) H' := fun s a u e => by
    by_cases z : a = p
    · subst z
      rw [upd_same] at e
      cases e
      exact .inl h
    · rw [upd_ne z] at e
      exact s a u e
  have np : ∀ a u, H a = some u → a ≠ p := fun a u e => ne_of_none e n
  cases m with
  | true =>
    obtain ⟨rfl, g⟩ := g
    exact ⟨rfl, g.ii.trans ij, g.hh, sj g.sub, fun a u e z => by rw [upd_ne (np a u e)]; exact g.fr a u e z⟩
  | false =>
    obtain ⟨ok', st, mt⟩ := g
    refine ⟨⟨ok'.len, fun i s e => (ok'.ok i s e).grow ij fun _ _ _ e => e, ok'.nd, ok'.dj, fun i a z => ?_, sj ok'.sub⟩, ⟨st.ii.trans ij, st.oth, fun a u e z q => by rw [upd_ne (np a u e)]; exact st.fr a u e z q, st.mm, st.al⟩, mt⟩
    obtain ⟨u, e⟩ := ok.there (mt a ⟨i, z⟩)
    rw [upd_ne (np a u e)]
    exact ok'.out i a z
theorem RsOk.data {v : V} {o : Bool} {d : D} (r : RsOk K H I' H' v o d) (g : Go m K σ ρ I H ρ' I' H') (ok : EnvOk K I H σ ρ) : ∃ J, Go m K σ ρ I H ρ' J H' ∧ Rv K J v d := by
  cases o with
  | false => exact ⟨I', g, r⟩
  | true =>
    obtain ⟨p, xs, ds, rfl, rfl, n, ni, h, t⟩ := r
    refine ⟨_, g.freeze ok n ni h, Rv.mkL upd_same (DqAll.same (fun a u e => ?_) t)⟩
    rw [upd_ne (ne_of_none e ni)]
    exact e
end

/-! ### what may be raised: classes W, with all that stood ahead of the def kept -/
def Thr (X : Cx) (H0 : Hp) (W : Value → Prop) : Prop := L2N.Takes X (fun cls d _ H' => W cls ∧ d = none ∧ Same H0 H')
structure XOk (X : Cx) (W : Value → Prop) (H : Hp) (ρ : List Sl) : Prop where
  ex : ∃ H0, Thr X H0 W ∧ Same H0 H ∧ ∀ a, Mt ρ a → H0 a = none
/-- nothing is raised -/
abbrev W0 : Value → Prop := fun _ => False
theorem XOk.zero {X : Cx} {H : Hp} {ρ : List Sl} : XOk X W0 H ρ :=
  ⟨fun _ => none, fun _ _ ⟨_, _, _, _, _, _, _, _, _, _, _, _, _, _, _, _, z⟩ => z.1.elim, fun _ _ z => (nomatch z), fun _ _ => rfl⟩
theorem XOk.step {X : Cx} {W : Value → Prop} {I H I' H' : Hp} {ρ ρ' : List Sl} (x : XOk X W H ρ) (s : Step I H (Mt ρ) I' H' (Mt ρ')) : XOk X W H' ρ' := by
  obtain ⟨H0, t, h, k⟩ := x.ex
  have nm : ∀ a o, H0 a = some o → ¬ Mt ρ a := fun a o e m => by rw [k a m] at e; cases e
  refine ⟨H0, t, fun a o e => s.oth a o (h a o e) (nm a o e), fun a m => ?_⟩
  rcases s.mm a m with z | z
  · exact k a z
  · cases e : H0 a with
    | none => rfl
    | some o => rw [h a o e] at z; cases z
end Tt

namespace Tt
open PySem PySem.Spec PyProof.Rows L2

/-! ### the weakest readings -/
section
variable {X : Cx}
def wE (X : Cx) (e : Expr) : TE := fun σ H Q => ∃ t, PE X e t ∧ t σ H Q
theorem pe_w {e : Expr} : PE X e (wE X e) := ⟨fun pins s σ H Q I ⟨_, h, q⟩ => h.run pins s σ H Q I q⟩
def wT (X : Cx) (e : Expr) : TT := fun σ H Q => ∃ t, PT X e t ∧ t σ H Q
theorem pt_w {e : Expr} : PT X e (wT X e) := ⟨fun pins s σ H Q I ⟨_, h, q⟩ => h.run pins s σ H Q I q⟩
def wW (X : Cx) (e : Expr) : TT := fun σ H Q => ∃ t, PW X e t ∧ t σ H Q
theorem pw_w {e : Expr} : PW X e (wW X e) := ⟨fun w pins s σ H Q I ⟨_, h, q⟩ => h.run w pins s σ H Q I q⟩
def wA (X : Cx) (es : List Expr) : TA := fun σ H Q => ∃ t, PA X es t ∧ t σ H Q
theorem pa_w {es : List Expr} : PA X es (wA X es) := ⟨fun pos pins s σ H Q I ⟨_, h, q⟩ => h.run pos pins s σ H Q I q⟩
def wS (X : Cx) (ss : List Stmt) : TS := fun D σ H => ∃ t, PSs X ss t ∧ t D σ H
theorem pss_w {ss : List Stmt} : PSs X ss (wS X ss) := ⟨fun pins s σ H D I ⟨_, h, q⟩ => h.run pins s σ H D I q⟩
def w1 (X : Cx) (st : Stmt) : TS := fun D σ H => ∃ t, PS X st t ∧ t D σ H
theorem ps_w {st : Stmt} : PS X st (w1 X st) := ⟨fun pins s σ H D I ⟨_, h, q⟩ => h.run pins s σ H D I q⟩
def wOp (X : Cx) (f : Value → Value → Sem Value) : R2 := fun x y H Q => ∃ r, OpR X f r ∧ r x y H Q
theorem op_w {f : Value → Value → Sem Value} : OpR X f (wOp X f) := fun pins s σ H x y v u Q I rx ry ⟨_, h, q⟩ => h pins s σ H x y v u Q I rx ry q
def wUn (X : Cx) (f : Value → Sem Value) : V → Hp → VK → Prop := fun x H Q => ∃ r, UnR X f r ∧ r x H Q
theorem un_w {f : Value → Sem Value} : UnR X f (wUn X f) := fun pins s σ H x v Q I rx ⟨_, h, q⟩ => h pins s σ H x v Q I rx q
def wCall (X : Cx) (f : Value) : List V → Hp → VK → Prop := fun xs H Q => ∃ r, CallR X f r ∧ r xs H Q
theorem call_w {f : Value} : CallR X f (wCall X f) := fun pins s σ H xs us Q I rx ⟨_, h, q⟩ => h pins s σ H xs us Q I rx q
def wMt (X : Cx) (id : String) : V → List V → Hp → VK → Prop := fun x xs H Q => ∃ r, MtR X id r ∧ r x xs H Q
theorem mt_w {id : String} : MtR X id (wMt X id) := fun pins s σ H x xs v us Q I rx rs ⟨_, h, q⟩ => h pins s σ H x xs v us Q I rx rs q
def wIx (X : Cx) : R2 := fun x y H Q => ∃ r, IxR X r ∧ r x y H Q
theorem ix_w : IxR X (wIx X) := fun a b pins s σ H x y v u Q I rx ry ⟨_, h, q⟩ e => h a b pins s σ H x y v u Q I rx ry q e
def wSl (X : Cx) : V → Option Int → Option Int → Hp → VK → Prop := fun x lo hi H Q => ∃ r, SlR X r ∧ r x lo hi H Q
theorem sl_w : SlR X (wSl X) := fun pins s σ H x v vl vu lo hi sl Q I rx hs pl pu ⟨_, h, q⟩ => h pins s σ H x v vl vu lo hi sl Q I rx hs pl pu q
def wI (X : Cx) (tg iter : Expr) : TI := fun σ H R => ∃ w, PI X tg iter w ∧ w σ H R
theorem pi_w {tg iter : Expr} : PI X tg iter (wI X tg iter) := ⟨fun pins s σ H R I ⟨_, h, q⟩ => h.run pins s σ H R I q⟩
def wTs (X : Cx) (ifs : List Expr) : TT := fun σ H Q => ∃ t, PTs X ifs t ∧ t σ H Q
theorem pts_w {ifs : List Expr} : PTs X ifs (wTs X ifs) := ⟨fun pins s σ H Q I ⟨_, h, q⟩ => h.run pins s σ H Q I q⟩
def wSet (X : Cx) : TSet := fun o i v H Q => ∃ t, PSet X t ∧ t o i v H Q
theorem set_w : PSet X (wSet X) := fun pins s σ H o i v ov iv u Q I ro ri rv ⟨_, h, q⟩ => h pins s σ H o i v ov iv u Q I ro ri rv q
def wIp (X : Cx) (op : Operator) : TIp := fun x y H Q => ∃ t, PIp X op t ∧ t x y H Q
theorem ip_w {op : Operator} : PIp X op (wIp X op) := fun pins s σ H x y v u Q I rx ry ⟨_, h, q⟩ => h pins s σ H x y v u Q I rx ry q
end

/-! ### the judgements over data -/
abbrev Wx := Value → Prop
def EM (m : Bool) (X : Cx) (e : Expr) (ρ : List Sl) (W : Wx) (Q : Bool → D → List Sl → Prop) : Prop :=
  ∀ σ I H, EnvOk X.K I H σ ρ → XOk X W H ρ → ∀ R : VK, (∀ v o d ρ' I' H', Go m X.K σ ρ I H ρ' I' H' → RsOk X.K H I' H' v o d → Q o d ρ' → R v H') → wE X e σ H R
def TM (m : Bool) (X : Cx) (e : Expr) (ρ : List Sl) (W : Wx) (Q : Bool → List Sl → Prop) : Prop :=
  ∀ σ I H, EnvOk X.K I H σ ρ → XOk X W H ρ → ∀ R : Bool → Hp → Prop, (∀ b ρ' I' H', Go m X.K σ ρ I H ρ' I' H' → Q b ρ' → R b H') → wT X e σ H R
def UM (m : Bool) (X : Cx) (e : Expr) (ρ : List Sl) (W : Wx) (Q : Bool → List Sl → Prop) : Prop :=
  ∀ σ I H, EnvOk X.K I H σ ρ → XOk X W H ρ → ∀ R : Bool → Hp → Prop, (∀ b ρ' I' H', Go m X.K σ ρ I H ρ' I' H' → Q b ρ' → R b H') → wW X e σ H R
def AM (m : Bool) (X : Cx) (es : List Expr) (ρ : List Sl) (W : Wx) (Q : List D → List Sl → Prop) : Prop :=
  ∀ σ I H, EnvOk X.K I H σ ρ → XOk X W H ρ → ∀ R : List V → Hp → Prop, (∀ vs ds ρ' I' H', Go m X.K σ ρ I H ρ' I' H' → Paired (Rv X.K I') vs ds → Q ds ρ' → R vs H') → wA X es σ H R
/-- what an operation on values comes to (o: a new list) -/
def Res (X : Cx) (I H : Hp) (Q : Bool → D → Prop) (R : VK) : Prop := ∀ z o d I' H', Grow I H I' H' → RsOk X.K H I' H' z o d → Q o d → R z H'
/-- an operation on data -/
def FD (X : Cx) (f : Value → Value → Sem Value) (x y : D) (Q : Bool → D → Prop) : Prop :=
  ∀ I H v u, Sub I H → Rv X.K I v x → Rv X.K I u y → ∀ R : VK, Res X I H Q R → wOp X f v u H R
def GD (X : Cx) (f : Value → Sem Value) (x : D) (Q : Bool → D → Prop) : Prop :=
  ∀ I H v, Sub I H → Rv X.K I v x → ∀ R : VK, Res X I H Q R → wUn X f v H R
def ID (X : Cx) (x y : D) (Q : Bool → D → Prop) : Prop :=
  ∀ I H v u, Sub I H → Rv X.K I v x → Rv X.K I u y → ∀ R : VK, Res X I H Q R → wIx X v u H R
def LD (X : Cx) (x : D) (lo hi : Option Int) (Q : Bool → D → Prop) : Prop :=
  ∀ I H v, Sub I H → Rv X.K I v x → ∀ R : VK, Res X I H Q R → wSl X v lo hi H R
/-- a call of a built-in on data -/
def KD (X : Cx) (f : Value) (ds : List D) (Q : Bool → D → Prop) : Prop :=
  ∀ I H vs, Sub I H → Paired (Rv X.K I) vs ds → ∀ R : VK, Res X I H Q R → wCall X f vs H R
/-- a method of a text -/
def MD (X : Cx) (id : String) (x : Str) (ds : List D) (Q : Bool → D → Prop) : Prop :=
  ∀ I H vs, Sub I H → Paired (Rv X.K I) vs ds → ∀ R : VK, Res X I H Q R → wMt X id (.str x) vs H R

theorem pairedR_same {K : PySem.W.Frag} {I J : Hp} (e : Same I J) {vs : List V} {ds : List D} (h : Paired (Rv K I) vs ds) : Paired (Rv K J) vs ds := paired_imp (fun _ _ _ q => q.same e) h
theorem RsOk.back {K : PySem.W.Frag} {H H1 I' H' : Hp} {v : V} {d : D} (n : ∀ p, H1 p = none → H p = none) : ∀ {o : Bool}, RsOk K H1 I' H' v o d → RsOk K H I' H' v o d
  | false, r => r
  | true, ⟨p, xs, ds, h1, h2, h3, h4⟩ => ⟨p, xs, ds, h1, h2, n p h3, h4⟩

section
variable {X : Cx} {m : Bool} {ρ ρ1 : List Sl} {W : Wx} {a b c e : Expr} {es : List Expr} {pos p : Pos} {Q : Bool → D → List Sl → Prop} {QT : Bool → List Sl → Prop} {QA : List D → List Sl → Prop} {σ : L2.St} {I H I1 H1 : Hp}

theorem Go.nn (g : Go m X.K σ ρ I H ρ1 I1 H1) (p : Addr) (n : H1 p = none) : H p = none := by
  cases e : H p with
  | none => rfl
  | some o =>
    obtain ⟨u, e2⟩ := g.step.al p o e
    rw [n] at e2
    cases e2
theorem EM.run (h : EM m X e ρ W Q) (ok : EnvOk X.K I H σ ρ) (xk : XOk X W H ρ) {R : VK} (f : ∀ v o d ρ' I' H', Go m X.K σ ρ I H ρ' I' H' → Rv X.K I' v d → Q o d ρ' → R v H') : wE X e σ H R :=
  h σ I H ok xk R fun v o d ρ' I' H' g r q => by
    obtain ⟨J, g', r'⟩ := r.data g ok
    exact f v o d ρ' J H' g' r' q
/-- a last operation's end -/
theorem Res.fin {R : VK} {Q1 : Bool → D → Prop} (ok : EnvOk X.K I H σ ρ) (g : Go m X.K σ ρ I H ρ1 I1 H1) (f : ∀ v o d ρ' I' H', Go m X.K σ ρ I H ρ' I' H' → RsOk X.K H I' H' v o d → Q o d ρ' → R v H') (k : ∀ o d, Q1 o d → Q o d ρ1) : Res X I1 H1 Q1 R :=
  fun z o d I' H' g3 r3 q3 => f z o d ρ1 I' H' (g.grow ok g3) (r3.back (g.nn)) (k o d q3)

theorem em_mono {Q' : Bool → D → List Sl → Prop} (h : EM m X e ρ W Q) (k : ∀ o d ρ', Q o d ρ' → Q' o d ρ') : EM m X e ρ W Q' := fun σ I H ok xk R f => h σ I H ok xk R fun v o d ρ' I' H' g r q => f v o d ρ' I' H' g r (k o d ρ' q)
theorem tm_mono {Q' : Bool → List Sl → Prop} (h : TM m X e ρ W QT) (k : ∀ d ρ', QT d ρ' → Q' d ρ') : TM m X e ρ W Q' := fun σ I H ok xk R f => h σ I H ok xk R fun d ρ' I' H' g q => f d ρ' I' H' g (k d ρ' q)
/-- a pure expression anywhere -/
theorem em_pure (h : EM true X e ρ W fun o d ρ' => ρ' = ρ → Q o d ρ) : EM m X e ρ W Q := fun σ I H ok xk R f => h σ I H ok xk R fun v o d ρ' I' H' g r q => by
  obtain rfl : ρ' = ρ := g.1
  exact f v o d _ I' H' (g.any ok) r (q rfl)
theorem tm_pure (h : TM true X e ρ W fun d ρ' => ρ' = ρ → QT d ρ) : TM m X e ρ W QT := fun σ I H ok xk R f => h σ I H ok xk R fun d ρ' I' H' g q => by
  obtain rfl : ρ' = ρ := g.1
  exact f d _ I' H' (g.any ok) (q rfl)

/-! names and constants -/
theorem em_var (i : Nat) {x : Str} {d : D} (h : ρ[i]? = some (.va d)) (q : Q false d ρ) (hN : X.N[i]? = some x := by rfl) (hv : Vis X.env.scope x := by first | exact Or.inl rfl | exact Or.inr (Or.inl rfl) | exact Or.inr (Or.inr rfl))
    (hd : (x == ("__debug__" : Str)) = false := by decide) (hcd : (x == ("__classdict__" : Str)) = false := by decide) : EM m X (.Name x pos) ρ W Q := fun σ I H ok xk R f => by
  obtain ⟨v, e, r⟩ := ok.at h (fun z => nomatch z)
  exact ⟨_, pe_var hN hv hd hcd, v, e, f v false d ρ I H (Go.refl ok) r q⟩
theorem em_int {i : Int} {j} (q : Q false (.int i) ρ) : EM m X (.Constant (.int i) j pos) ρ W Q := fun σ I H ok xk R f => ⟨_, pe_int, f _ false _ ρ I H (Go.refl ok) Rv.mkInt q⟩
theorem em_bool {i : Bool} {j} (q : Q false (.bool i) ρ) : EM m X (.Constant (.bool i) j pos) ρ W Q := fun σ I H ok xk R f => ⟨_, pe_bl, f _ false _ ρ I H (Go.refl ok) Rv.mkBl q⟩
theorem em_str {i : Str} {j} (q : Q false (.str i) ρ) : EM m X (.Constant (.str i) j pos) ρ W Q := fun σ I H ok xk R f => ⟨_, pe_str, f _ false _ ρ I H (Go.refl ok) Rv.mkStr q⟩
theorem em_none {j} (q : Q false .none ρ) : EM m X (.Constant .none j pos) ρ W Q := fun σ I H ok xk R f => ⟨_, pe_non, f _ false _ ρ I H (Go.refl ok) Rv.mkNon q⟩
theorem em_globInt {x : Str} {i : Int} {t : Tok} (hm : X.mg x = some (.int i t)) (q : Q false (.int i) ρ) (hg : Gl X x := by rfl) (hd : (x == ("__debug__" : Str)) = false := by decide) : EM m X (.Name x pos) ρ W Q := fun σ I H ok xk R f => ⟨_, pe_glob hg hm (v := .int i) ⟨t, rfl⟩ hd, f _ false _ ρ I H (Go.refl ok) Rv.mkInt q⟩
theorem em_globStr {x : Str} {i : Str} {t : Tok} (hm : X.mg x = some (.str i t)) (q : Q false (.str i) ρ) (hg : Gl X x := by rfl) (hd : (x == ("__debug__" : Str)) = false := by decide) : EM m X (.Name x pos) ρ W Q := fun σ I H ok xk R f => ⟨_, pe_glob hg hm (v := .str i) ⟨t, rfl⟩ hd, f _ false _ ρ I H (Go.refl ok) Rv.mkStr q⟩

/-! operators -/
theorem em_bin {op : Operator} (h : EM m X a ρ W fun _ x ρ1 => EM m X b ρ1 W fun _ y ρ2 => FD X (binaryOp op) x y fun o z => Q o z ρ2) : EM m X (.BinOp a op b pos) ρ W Q := fun σ I H ok xk R f =>
  ⟨_, pe_op op_w pe_w pe_w, h.run ok xk fun v _ x ρ1 I1 H1 g1 r1 q1 => q1.run (g1.env ok) (xk.step g1.step) fun u _ y ρ2 I2 H2 g2 r2 q2 =>
    q2 I2 H2 v u (g2.env (g1.env ok)).sub (r1.same g2.ii) r2 R (Res.fin ok (g1.trans g2) f fun _ _ h => h)⟩
theorem em_un {op : UnaryOp} (h : EM m X a ρ W fun _ x ρ1 => GD X (unaryOp op) x fun o z => Q o z ρ1) : EM m X (.UnaryOp op a pos) ρ W Q := fun σ I H ok xk R f =>
  ⟨_, pe_un un_w pe_w, h.run ok xk fun v _ x ρ1 I1 H1 g1 r1 q1 => q1 I1 H1 v (g1.env ok).sub r1 R (Res.fin ok g1 f fun _ _ h => h)⟩
theorem em_cmp {op : CmpOp} (hm : behindInMarks op b = false) (h : EM m X a ρ W fun _ x ρ1 => EM m X b ρ1 W fun _ y ρ2 => FD X (compareOp op) x y fun o z => Q o z ρ2) : EM m X (.Compare a [op] [b] pos) ρ W Q := fun σ I H ok xk R f =>
  ⟨_, pe_cmpR op_w pe_w pe_w hm, h.run ok xk fun v _ x ρ1 I1 H1 g1 r1 q1 => q1.run (g1.env ok) (xk.step g1.step) fun u _ y ρ2 I2 H2 g2 r2 q2 =>
    q2 I2 H2 v u (g2.env (g1.env ok)).sub (r1.same g2.ii) r2 R (Res.fin ok (g1.trans g2) f fun _ _ h => h)⟩
theorem Rs.bool {K : PySem.W.Frag} {H I' H' : Hp} {v : V} {k : Bool} : ∀ {o : Bool}, RsOk K H I' H' v o (.bool k) → v = .bl k
  | false, r => Rv.bl r
  | true, ⟨_, _, _, _, z, _⟩ => by cases z
theorem tm_cmp {op : CmpOp} (hm : behindInMarks op b = false) (h : EM m X a ρ W fun _ x ρ1 => EM m X b ρ1 W fun _ y ρ2 => FD X (compareOp op) x y fun _ z => ∃ k, z = .bool k ∧ QT k ρ2) : TM m X (.Compare a [op] [b] pos) ρ W QT := fun σ I H ok xk R f =>
  ⟨_, pt_cmpR op_w pe_w pe_w hm, h.run ok xk fun v _ x ρ1 I1 H1 g1 r1 q1 => q1.run (g1.env ok) (xk.step g1.step) fun u _ y ρ2 I2 H2 g2 r2 q2 =>
    q2 I2 H2 v u (g2.env (g1.env ok)).sub (r1.same g2.ii) r2 _ fun z _ d I3 H3 g3 r3 ⟨k, e, q3⟩ => by
      subst e
      exact ⟨k, Rs.bool r3, f k ρ2 I3 H3 ((g1.trans g2).grow ok g3) q3⟩⟩
/-- x op y op' z -/
theorem em_chain {op op' : CmpOp} (hm : lastMarks [op, op'] [b, c] = false) (h : EM m X a ρ W fun _ x ρ1 => EM m X b ρ1 W fun _ y ρ2 => FD X (compareOp op) x y fun _ z => ∃ k, z = .bool k ∧ (k = false → Q false (.bool false) ρ2) ∧ (k = true → EM m X c ρ2 W fun _ w ρ3 => FD X (compareOp op') y w fun o z => Q o z ρ3)) : EM m X (.Compare a [op, op'] [b, c] pos) ρ W Q := by
  intro σ I H ok xk R f
  refine ⟨_, pe_chain op_w op_w pe_w pe_w pe_w hm, ?_⟩
  refine h.run ok xk fun v _ x ρ1 I1 H1 g1 r1 q1 => q1.run (g1.env ok) (xk.step g1.step) fun u _ y ρ2 I2 H2 g2 r2 q2 => ?_
  refine q2 I2 H2 v u (g2.env (g1.env ok)).sub (r1.same g2.ii) r2 _ fun z _ d I3 H3 g3 r3 q3 => ?_
  obtain ⟨k, e, q3, q4⟩ := q3
  subst e
  have g := (g1.trans g2).grow ok g3
  refine ⟨k, Rs.bool r3, ?_⟩
  cases k with
  | false => exact iteF (f _ false _ ρ2 I3 H3 g Rv.mkBl (q3 rfl))
  | true =>
    refine iteT ((q4 rfl).run (g.env ok) (xk.step g.step) fun u4 _ y4 ρ4 I4 H4 g4 r4 q5 => ?_)
    exact q5 I4 H4 u u4 (g4.env (g.env ok)).sub ((r2.same g3.ii).same g4.ii) r4 R (Res.fin ok (g.trans g4) f fun _ _ h => h)
theorem tm_chain {op op' : CmpOp} (hm : lastMarks [op, op'] [b, c] = false) (h : EM m X a ρ W fun _ x ρ1 => EM m X b ρ1 W fun _ y ρ2 => FD X (compareOp op) x y fun _ z => ∃ k, z = .bool k ∧ (k = false → QT false ρ2) ∧ (k = true → EM m X c ρ2 W fun _ w ρ3 => FD X (compareOp op') y w fun _ z => ∃ k, z = .bool k ∧ QT k ρ3)) : TM m X (.Compare a [op, op'] [b, c] pos) ρ W QT := by
  intro σ I H ok xk R f
  refine ⟨_, pt_chain op_w op_w pe_w pe_w pe_w hm, ?_⟩
  refine h.run ok xk fun v _ x ρ1 I1 H1 g1 r1 q1 => q1.run (g1.env ok) (xk.step g1.step) fun u _ y ρ2 I2 H2 g2 r2 q2 => ?_
  refine q2 I2 H2 v u (g2.env (g1.env ok)).sub (r1.same g2.ii) r2 _ fun z _ d I3 H3 g3 r3 q3 => ?_
  obtain ⟨k, e, q3, q4⟩ := q3
  subst e
  have g := (g1.trans g2).grow ok g3
  refine ⟨k, Rs.bool r3, ?_⟩
  cases k with
  | false => exact iteF ⟨false, rfl, f _ ρ2 I3 H3 g (q3 rfl)⟩
  | true =>
    refine iteT ((q4 rfl).run (g.env ok) (xk.step g.step) fun u4 _ y4 ρ4 I4 H4 g4 r4 q5 => ?_)
    refine q5 I4 H4 u u4 (g4.env (g.env ok)).sub ((r2.same g3.ii).same g4.ii) r4 _ fun z _ d I5 H5 g5 r5 q6 => ?_
    obtain ⟨k, e, q6⟩ := q6
    subst e
    exact ⟨k, Rs.bool r5, f k ρ4 I5 H5 ((g.trans g4).grow ok g5) q6⟩

/-! and, or, not, if -/
theorem em_then (ok : EnvOk X.K I H σ ρ) (xk : XOk X W H ρ) (g1 : Go m X.K σ ρ I H ρ1 I1 H1) (q : EM m X e ρ1 W Q) {R : VK} (f : ∀ v o d ρ' I' H', Go m X.K σ ρ I H ρ' I' H' → RsOk X.K H I' H' v o d → Q o d ρ' → R v H') : wE X e σ H1 R :=
  q σ I1 H1 (g1.env ok) (xk.step g1.step) R fun v o d ρ' I' H' g r q => f v o d ρ' I' H' (g1.trans g) (r.back g1.nn) q
theorem em_and (h : EM m X a ρ W fun _ x ρ1 => ∃ k, x = .bool k ∧ (k = true → EM m X (.BoolOp .And (b :: es) pos) ρ1 W Q) ∧ (k = false → Q false (.bool false) ρ1)) : EM m X (.BoolOp .And (a :: b :: es) pos) ρ W Q := fun σ I H ok xk R f =>
  ⟨_, pe_and pe_w pe_w, h.run ok xk fun v _ x ρ1 I1 H1 g1 r1 ⟨k, e, q1, q2⟩ => by
    subst e
    refine ⟨k, r1.bl, ?_⟩
    cases k with
    | false => exact f _ false _ ρ1 I1 H1 g1 Rv.mkBl (q2 rfl)
    | true => exact em_then ok xk g1 (q1 rfl) f⟩
theorem em_or (h : EM m X a ρ W fun _ x ρ1 => ∃ k, x = .bool k ∧ (k = false → EM m X (.BoolOp .Or (b :: es) pos) ρ1 W Q) ∧ (k = true → Q false (.bool true) ρ1)) : EM m X (.BoolOp .Or (a :: b :: es) pos) ρ W Q := fun σ I H ok xk R f =>
  ⟨_, pe_or pe_w pe_w, h.run ok xk fun v _ x ρ1 I1 H1 g1 r1 ⟨k, e, q1, q2⟩ => by
    subst e
    refine ⟨k, r1.bl, ?_⟩
    cases k with
    | true => exact f _ false _ ρ1 I1 H1 g1 Rv.mkBl (q2 rfl)
    | false => exact em_then ok xk g1 (q1 rfl) f⟩
theorem em_one {op} (h : EM m X a ρ W Q) : EM m X (.BoolOp op [a] pos) ρ W Q := fun σ I H ok xk R f => ⟨_, pe_one pe_w, h σ I H ok xk R f⟩
theorem em_not (h : EM m X a ρ W fun _ x ρ1 => ∃ k, x = .bool k ∧ Q false (.bool !k) ρ1) : EM m X (.UnaryOp .Not a pos) ρ W Q := fun σ I H ok xk R f =>
  ⟨_, pe_not pe_w, h.run ok xk fun v _ x ρ1 I1 H1 g1 r1 ⟨k, e, q⟩ => by
    subst e
    exact ⟨k, r1.bl, f _ false _ ρ1 I1 H1 g1 Rv.mkBl q⟩⟩
theorem em_ite (h : TM m X c ρ W fun k ρ1 => (k = true → EM m X a ρ1 W Q) ∧ (k = false → EM m X b ρ1 W Q)) : EM m X (.IfExp c a b pos) ρ W Q := fun σ I H ok xk R f =>
  ⟨_, pe_ifExp pt_w pe_w pe_w, h σ I H ok xk _ fun k ρ1 I1 H1 g1 ⟨q1, q2⟩ => by
    cases k with
    | true => exact em_then ok xk g1 (q1 rfl) f
    | false => exact em_then ok xk g1 (q2 rfl) f⟩
theorem tm_val (h : EM m X e ρ W fun _ d ρ1 => ∃ k, d = .bool k ∧ QT k ρ1) (he : ∀ whole, isTrue e X.env whole = (do let v ← whole; standAt e.pos; holding [v] (truthy v)) := by intro _; rfl) : TM m X e ρ W QT := fun σ I H ok xk R f =>
  ⟨_, pt_val pe_w he, h.run ok xk fun v _ x ρ1 I1 H1 g1 r1 ⟨k, e, q⟩ => by
    subst e
    exact ⟨k, r1.bl, f _ ρ1 I1 H1 g1 q⟩⟩
theorem tm_of_um (h : UM m X e ρ W QT) : TM m X e ρ W QT := fun σ I H ok xk R f => by
  obtain ⟨t, h1, h2⟩ := h σ I H ok xk R f
  exact ⟨t, h1.pt, h2⟩
theorem um_and (h : TM m X a ρ W fun k ρ1 => (k = true → UM m X (.BoolOp .And (b :: es) pos) ρ1 W QT) ∧ (k = false → QT false ρ1)) : UM m X (.BoolOp .And (a :: b :: es) pos) ρ W QT := fun σ I H ok xk R f =>
  ⟨_, pw_and pt_w pw_w, h σ I H ok xk _ fun k ρ1 I1 H1 g1 ⟨q1, q2⟩ => by
    cases k with
    | true => exact q1 rfl σ I1 H1 (g1.env ok) (xk.step g1.step) R fun d ρ' I' H' g q => f d ρ' I' H' (g1.trans g) q
    | false => exact f _ ρ1 I1 H1 g1 (q2 rfl)⟩
theorem um_or (h : TM m X a ρ W fun k ρ1 => (k = false → UM m X (.BoolOp .Or (b :: es) pos) ρ1 W QT) ∧ (k = true → QT true ρ1)) : UM m X (.BoolOp .Or (a :: b :: es) pos) ρ W QT := fun σ I H ok xk R f =>
  ⟨_, pw_or pt_w pw_w, h σ I H ok xk _ fun k ρ1 I1 H1 g1 ⟨q1, q2⟩ => by
    cases k with
    | false => exact q1 rfl σ I1 H1 (g1.env ok) (xk.step g1.step) R fun d ρ' I' H' g q => f d ρ' I' H' (g1.trans g) q
    | true => exact f _ ρ1 I1 H1 g1 (q2 rfl)⟩
theorem um_and1 (h : TM m X a ρ W QT) : UM m X (.BoolOp .And [a] pos) ρ W QT := fun σ I H ok xk R f => ⟨_, pw_and1 pt_w, h σ I H ok xk R f⟩
theorem um_or1 (h : TM m X a ρ W QT) : UM m X (.BoolOp .Or [a] pos) ρ W QT := fun σ I H ok xk R f => ⟨_, pw_or1 pt_w, h σ I H ok xk R f⟩
theorem tm_not (h : TM m X a ρ W fun k ρ1 => QT (!k) ρ1) : TM m X (.UnaryOp .Not a pos) ρ W QT := fun σ I H ok xk R f =>
  ⟨_, pt_not pt_w, h σ I H ok xk _ fun k ρ1 I1 H1 g1 q => f _ ρ1 I1 H1 g1 q⟩

/-! arguments, displays -/
theorem am_nil (q : QA [] ρ) : AM m X [] ρ W QA := fun σ I H ok xk R f => ⟨_, pa_nil, f [] [] ρ I H (Go.refl ok) .nil q⟩
theorem am_cons (h : EM m X e ρ W fun _ d ρ1 => AM m X es ρ1 W fun ds ρ2 => QA (d :: ds) ρ2) (hs : starEach (e :: es) X.env = (false, eval e X.env) :: starEach es X.env := by rfl) : AM m X (e :: es) ρ W QA := fun σ I H ok xk R f =>
  ⟨_, pa_cons pe_w pa_w hs, h.run ok xk fun v _ x ρ1 I1 H1 g1 r1 q1 => q1 σ I1 H1 (g1.env ok) (xk.step g1.step) _ fun vs ds ρ2 I2 H2 g2 r2 q2 => f (v :: vs) (x :: ds) ρ2 I2 H2 (g1.trans g2) (.cons (r1.same g2.ii) r2) q2⟩
theorem dpAll_of {K : PySem.W.Frag} {I : Hp} : ∀ {vs : List V} {ds : List D}, Paired (Rv K I) vs ds → ds.all nd = true → DqAll I vs ds
  | _, _, .nil, _ => .nil
  | _, _, .cons h t, n => by
    rw [List.all_cons, Bool.and_eq_true] at n
    exact .cons (h.dp n.1) (dpAll_of t n.2)
theorem paired_len {α β : Type} {P : α → β → Prop} {as : List α} {bs : List β} (h : Paired P as bs) : as.length = bs.length := Paired.length h
theorem em_tup {k} (h : AM m X es ρ W fun ds ρ1 => ds.length ≤ sizeLine ∧ ds.all nd = true ∧ Q false (.tuple ds) ρ1) : EM m X (.Tuple es k pos) ρ W Q := fun σ I H ok xk R f =>
  ⟨_, pe_tup pa_w, h σ I H ok xk _ fun vs ds ρ1 I1 H1 g1 r1 ⟨l, n, q⟩ => ⟨by rw [paired_len r1]; exact l, fun p np => by
    have g := Grow.new (o := .tup vs) (g1.env ok).sub np
    exact f _ false _ ρ1 _ _ (g1.grow ok g) (Rv.mkT upd_same (DqAll.same g.ii (dpAll_of r1 n))) q⟩⟩
theorem em_lst (h : AM m X es ρ W fun ds ρ1 => ds.length ≤ sizeLine ∧ ds.all nd = true ∧ Q true (.list ds) ρ1) : EM m X (.List es pos) ρ W Q := fun σ I H ok xk R f =>
  ⟨_, pe_lst pa_w, h σ I H ok xk _ fun vs ds ρ1 I1 H1 g1 r1 ⟨l, n, q⟩ => ⟨by rw [paired_len r1]; exact l, fun p np => by
    have g := Grow.dark (o := .lst vs) (g1.env ok).sub np
    exact f _ true _ ρ1 _ _ (g1.grow ok g) ⟨p, vs, ds, rfl, rfl, g1.nn p np, (g1.env ok).sub.nn np, upd_same, dpAll_of r1 n⟩ q⟩⟩

/-! subscripts, slices -/
theorem em_ix (hs : PlainIx b) (h : EM m X a ρ W fun _ x ρ1 => EM m X b ρ1 W fun _ y ρ2 => ID X x y fun o z => Q o z ρ2) : EM m X (.Subscript a b pos) ρ W Q := fun σ I H ok xk R f =>
  ⟨_, pe_ix ix_w pe_w pe_w hs, h.run ok xk fun v _ x ρ1 I1 H1 g1 r1 q1 => q1.run (g1.env ok) (xk.step g1.step) fun u _ y ρ2 I2 H2 g2 r2 q2 =>
    q2 I2 H2 v u (g2.env (g1.env ok)).sub (r1.same g2.ii) r2 R (Res.fin ok (g1.trans g2) f fun _ _ h => h)⟩
/-- a part of a slice -/
def OM (m : Bool) (X : Cx) (e : Option Expr) (ρ : List Sl) (W : Wx) (Q : Option Int → List Sl → Prop) : Prop :=
  match e with
  | none => Q none ρ
  | some e => EM m X e ρ W fun _ d ρ1 => ∃ i, d = .int i ∧ Q (some i) ρ1
theorem om_run {e : Option Expr} {QO : Option Int → List Sl → Prop} (h : OM m X e ρ W QO) : ∀ σ I H, EnvOk X.K I H σ ρ → XOk X W H ρ → ∃ t, PO X e t ∧ ∀ R : Option Int → Hp → Prop, (∀ o ρ' I' H', Go m X.K σ ρ I H ρ' I' H' → QO o ρ' → R o H') → t σ H R := fun σ I H ok xk => by
  cases e with
  | none => exact ⟨_, po_none, fun R f => f none ρ I H (Go.refl ok) h⟩
  | some e => exact ⟨_, po_some pe_w, fun R f => EM.run (show EM m X e ρ W _ from h) ok xk fun v _ d ρ1 I1 H1 g1 r1 ⟨i, e, q⟩ => by
      subst e
      exact ⟨i, r1.int, f _ ρ1 I1 H1 g1 q⟩⟩
def wO (X : Cx) (e : Option Expr) : TO := fun σ H Q => ∃ t, PO X e t ∧ t σ H Q
theorem po_w {e : Option Expr} : PO X e (wO X e) := ⟨fun pins s σ H Q I ⟨_, h, q⟩ => h.run pins s σ H Q I q⟩
theorem em_sl {lo hi : Option Expr} {p2} (h : EM m X a ρ W fun _ x ρ1 => OM m X lo ρ1 W fun l ρ2 => OM m X hi ρ2 W fun u ρ3 => LD X x l u fun o z => Q o z ρ3) : EM m X (.Subscript a (.Slice lo hi none p2) pos) ρ W Q := fun σ I H ok xk R f =>
  ⟨_, pe_slice sl_w pe_w po_w po_w, h.run ok xk fun v _ x ρ1 I1 H1 g1 r1 q1 => by
    obtain ⟨t, ht, k⟩ := om_run q1 σ I1 H1 (g1.env ok) (xk.step g1.step)
    refine ⟨t, ht, k _ fun l ρ2 I2 H2 g2 q2 => ?_⟩
    have g12 := g1.trans g2
    obtain ⟨t', ht', k'⟩ := om_run q2 σ I2 H2 (g12.env ok) (xk.step g12.step)
    refine ⟨t', ht', k' _ fun u ρ3 I3 H3 g3 q3 => ?_⟩
    have g := g12.trans g3
    exact q3 I3 H3 v (g.env ok).sub ((r1.same g2.ii).same g3.ii) R (Res.fin ok g f fun _ _ h => h)⟩

/-! calls of built-ins, methods of texts -/
theorem em_callB {x : Str} {id : String} (hm : X.mg x = none) (hv : bootBuiltins x = some (.builtin id)) (h : AM m X (e :: es) ρ W fun ds ρ1 => KD X (.builtin id) ds fun o z => Q o z ρ1) (hg : Gl X x := by rfl) (hn : x ≠ "__name__" := by decide) (hdb : (x == ("__debug__" : Str)) = false := by decide)
    (he : starEach (e :: es) X.env = (false, eval e X.env) :: starEach es X.env := by rfl) (hpl : (backTo pos (starEach es X.env)).any (·.1) = false := by rfl) : EM m X (.Call (.Name x p) (e :: es) [] pos) ρ W Q := fun σ I H ok xk R f =>
  ⟨_, pe_callB call_w hg hm hv pa_w hn hdb he hpl, h σ I H ok xk _ fun vs ds ρ1 I1 H1 g1 r1 q1 => q1 I1 H1 vs (g1.env ok).sub r1 R (Res.fin ok g1 f fun _ _ h => h)⟩
theorem em_callTy {x : Str} {T : String} (hm : X.mg x = none) (hv : bootBuiltins x = some (.type T)) (h : AM m X (e :: es) ρ W fun ds ρ1 => KD X (.type T) ds fun o z => Q o z ρ1) (hg : Gl X x := by rfl) (hn : x ≠ "__name__" := by decide) (hdb : (x == ("__debug__" : Str)) = false := by decide)
    (he : starEach (e :: es) X.env = (false, eval e X.env) :: starEach es X.env := by rfl) (hpl : (backTo pos (starEach es X.env)).any (·.1) = false := by rfl) : EM m X (.Call (.Name x p) (e :: es) [] pos) ρ W Q := fun σ I H ok xk R f =>
  ⟨_, pe_callTy call_w hg hm hv pa_w hn hdb he hpl, h σ I H ok xk _ fun vs ds ρ1 I1 H1 g1 r1 q1 => q1 I1 H1 vs (g1.env ok).sub r1 R (Res.fin ok g1 f fun _ _ h => h)⟩
theorem em_meth {o : Expr} {name : Str} {apos cpos : Pos} {id : String} (slot : Slot "str" name id) (hty : typeOf (.builtin id) = pure (.type "method_descriptor"))
    (h : EM m X o ρ W fun _ x ρ1 => ∃ z, x = .str z ∧ AM m X (e :: es) ρ1 W fun ds ρ2 => MD X id z ds fun o z => Q o z ρ2)
    (hbase : attributeBase o name X.env (eval o X.env) = eval o X.env := by rfl)
    (hfew : ((backTo cpos (starEach (e :: es) X.env)).all (fun x => !x.1) && (backToKw cpos (keywordEach [] X.env)).all (fun x => x.1.isSome)
      && decide ((e :: es).length + ([] : List Keyword).length + (if ([] : List Keyword).isEmpty then 0 else 1) < 30)) = true := by rfl)
    (hline : (apos.endLine == cpos.line) = true := by rfl) (hs : starEach (e :: es) X.env = (false, eval e X.env) :: starEach es X.env := by rfl) (hplain : (backTo cpos (starEach es X.env)).any (·.1) = false := by rfl) :
    EM m X (.Call (.Attribute o name apos) (e :: es) [] cpos) ρ W Q := fun σ I H ok xk R f =>
  ⟨_, pe_bm PySem.F.plainAttrs_str slot hty mt_w pe_w pa_w hbase hfew hline hs hplain, h.run ok xk fun v _ x ρ1 I1 H1 g1 r1 ⟨z, e, q1⟩ => by
    subst e
    rw [r1.str]
    exact ⟨rfl, q1 σ I1 H1 (g1.env ok) (xk.step g1.step) _ fun vs ds ρ2 I2 H2 g2 r2 q2 => q2 I2 H2 vs (g2.env (g1.env ok)).sub r2 R (Res.fin ok (g1.trans g2) f fun _ _ h => h)⟩⟩
end
end Tt

namespace Tt
open PySem PySem.Spec PyProof.Rows L2

/-! ### values that are to be stored -/
def NewOk (K : PySem.W.Frag) (H I' H' : Hp) (v : V) (s : Sl) : Prop := SlOk K I' H' (some v) s ∧ (foot s).Nodup ∧ ∀ a ∈ foot s, H a = none ∧ I' a = none
def VM (m : Bool) (X : Cx) (e : Expr) (ρ : List Sl) (W : Wx) (Q : Sl → List Sl → Prop) : Prop :=
  ∀ σ I H, EnvOk X.K I H σ ρ → XOk X W H ρ → ∀ R : VK, (∀ v s ρ' I' H', Go m X.K σ ρ I H ρ' I' H' → NewOk X.K H I' H' v s → Q s ρ' → R v H') → wE X e σ H R

section
variable {K : PySem.W.Frag} {I H I' H' : Hp} {σ : L2.St} {ρ ρ' : List Sl} {m : Bool} {v : V} {s : Sl} {i : Nat}
theorem mt_set {a : Addr} (h : Mt (ρ.set i s) a) : Mt ρ a ∨ a ∈ foot s := by
  obtain ⟨j, h⟩ := h
  rw [ft_set] at h
  split at h
  · exact .inr h
  · exact .inl ⟨j, h⟩
theorem EnvOk.put (ok : EnvOk K I H σ ρ) (h : SlOk K I H (some v) s) (nd : (foot s).Nodup) (nm : ∀ a ∈ foot s, ¬ Mt ρ a) (out : ∀ a ∈ foot s, I a = none) : EnvOk K I H (σ.set i (some v)) (ρ.set i s) := by
  refine ⟨by rw [List.length_set, List.length_set, ok.len], fun j t e => ?_, fun j => ?_, fun j k a h1 h2 => ?_, fun j a h1 => ?_, ok.sub⟩
  · by_cases z : i = j
    · subst z
      have hl : i < ρ.length := by
        have := (List.getElem?_eq_some_iff.mp e).1
        rwa [List.length_set] at this
      rw [List.getElem?_set_self hl] at e
      cases e
      rw [List.getElem?_set_self (by rw [ok.len]; exact hl)]
      exact h
    · rw [List.getElem?_set_ne z] at e ⊢
      exact ok.ok j t e
  · rw [ft_set]
    split
    · exact nd
    · exact ok.nd j
  · rw [ft_set] at h1 h2
    split at h1 <;> split at h2
    · rename_i z1 z2; exact z1.1.symm.trans z2.1
    · exact absurd ⟨k, h2⟩ (nm a h1)
    · exact absurd ⟨j, h1⟩ (nm a h2)
    · exact ok.dj j k a h1 h2
  · rw [ft_set] at h1
    split at h1
    · exact out a h1
    · exact ok.out j a h1
/-- what is new lies apart -/
theorem NewOk.apart (n : NewOk K H I' H' v s) (ok : EnvOk K I H σ ρ) (g : Go m K σ ρ I H ρ' I' H') : ∀ a ∈ foot s, ¬ Mt ρ' a := fun a h z => by
  obtain ⟨u, e⟩ := ok.there (g.mt a z)
  rw [(n.2.2 a h).1] at e
  cases e
theorem NewOk.put (n : NewOk K H I' H' v s) (ok : EnvOk K I H σ ρ) (g : Go m K σ ρ I H ρ' I' H') : EnvOk K I' H' (σ.set i (some v)) (ρ'.set i s) ∧ Step I H (Mt ρ) I' H' (Mt (ρ'.set i s)) := by
  refine ⟨(g.env ok).put n.1 n.2.1 (n.apart ok g) fun a h => (n.2.2 a h).2, ?_⟩
  have st := g.step
  refine ⟨st.ii, st.oth, st.fr, fun a h => ?_, st.al⟩
  rcases mt_set h with z | z
  · exact st.mm a z
  · exact .inr (n.2.2 a z).1
theorem NewOk.of_data {d : D} (r : Rv K I' v d) : NewOk K H I' H' v (.va d) := ⟨r, List.nodup_nil, fun _ h => by cases h⟩
/-- it stays new while others are made -/
theorem NewOk.step {σ : L2.St} {ρ1 ρ2 : List Sl} {I2 H2 : Hp} (n : NewOk K H I' H' v s) (nm : ∀ a ∈ foot s, ¬ Mt ρ1 a) (st : Step I' H' (Mt ρ1) I2 H2 (Mt ρ2)) : NewOk K H I2 H2 v s :=
  ⟨n.1.grow st.ii fun q o hq e => st.oth q o e (nm q hq), n.2.1, fun a h => ⟨(n.2.2 a h).1, by
    obtain ⟨u, e⟩ := n.1.there h
    exact st.fr a u e (n.2.2 a h).2 (nm a h)⟩⟩
end

section
variable {X : Cx} {m : Bool} {ρ ρ1 : List Sl} {W : Wx} {a b c e : Expr} {es : List Expr} {pos p : Pos} {Q : Sl → List Sl → Prop} {σ : L2.St} {I H I1 H1 : Hp}
theorem vm_data (h : EM m X e ρ W fun _ d ρ1 => Q (.va d) ρ1) : VM m X e ρ W Q := fun σ I H ok xk R f => h.run ok xk fun v o d ρ' I' H' g r q => f v _ ρ' I' H' g (.of_data r) q
theorem vm_own (h : EM m X e ρ W fun o d ρ1 => o = true ∧ ∃ ds, d = .list ds ∧ ∀ p, Q (.mo p (.lst ds)) ρ1) : VM m X e ρ W Q := fun σ I H ok xk R f => h σ I H ok xk R fun v o d ρ' I' H' g r ⟨e, ds, e2, q⟩ => by
  subst e e2
  obtain ⟨p, xs, ds', rfl, e, n, ni, h, t⟩ := r
  cases e
  exact f _ (.mo p (.lst ds)) ρ' I' H' g ⟨⟨rfl, _, h, xs, rfl, t⟩, List.pairwise_singleton _ _, fun a z => by rw [List.mem_singleton.mp z]; exact ⟨n, ni⟩⟩ (q p)
theorem vm_newDk (h : ∀ p, Q (.mo p (.dk [])) ρ) : VM m X (.Dict [] [] pos) ρ W Q := fun σ I H ok xk R f => ⟨_, pe_dnewK, fun p np => by
  have g := Grow.dark (o := .dK []) ok.sub np
  exact f _ (.mo p (.dk [])) ρ _ _ (Go.of ok g) ⟨⟨rfl, _, upd_same, rfl⟩, List.pairwise_singleton _ _, fun a z => by rw [List.mem_singleton.mp z]; exact ⟨np, ok.sub.nn np⟩⟩ (h p)⟩
theorem vm_ite (h : TM m X c ρ W fun k ρ1 => (k = true → VM m X a ρ1 W Q) ∧ (k = false → VM m X b ρ1 W Q)) : VM m X (.IfExp c a b pos) ρ W Q := fun σ I H ok xk R f =>
  ⟨_, pe_ifExp pt_w pe_w pe_w, h σ I H ok xk _ fun k ρ1 I1 H1 g1 ⟨q1, q2⟩ => by
    have go : ∀ {e : Expr}, VM m X e ρ1 W Q → wE X e σ H1 R := fun {e} q => q σ I1 H1 (g1.env ok) (xk.step g1.step) R fun v s ρ' I' H' g r q => f v s ρ' I' H' (g1.trans g) ⟨r.1, r.2.1, fun a h => ⟨g1.nn a (r.2.2 a h).1, (r.2.2 a h).2⟩⟩ q
    cases k with
    | true => exact go (q1 rfl)
    | false => exact go (q2 rfl)⟩
/-- several, from the left -/
inductive NewAll (K : PySem.W.Frag) (H I' H' : Hp) : List V → List Sl → Prop where
  | nil : NewAll K H I' H' [] []
  | cons {v s vs ss} : NewOk K H I' H' v s → (∀ a ∈ foot s, ∀ t ∈ ss, a ∉ foot t) → NewAll K H I' H' vs ss → NewAll K H I' H' (v :: vs) (s :: ss)
def LM (m : Bool) (X : Cx) (es : List Expr) (ρ : List Sl) (W : Wx) (Q : List Sl → List Sl → Prop) : Prop :=
  ∀ σ I H, EnvOk X.K I H σ ρ → XOk X W H ρ → ∀ R : List V → Hp → Prop, (∀ vs ss ρ' I' H', Go m X.K σ ρ I H ρ' I' H' → NewAll X.K H I' H' vs ss → Q ss ρ' → R vs H') → wA X es σ H R
theorem lm_nil {QL : List Sl → List Sl → Prop} (q : QL [] ρ) : LM m X [] ρ W QL := fun σ I H ok xk R f => ⟨_, pa_nil, f [] [] ρ I H (Go.refl ok) .nil q⟩
theorem NewAll.back {K : PySem.W.Frag} {H H1 I' H' : Hp} (n : ∀ p, H1 p = none → H p = none) : ∀ {vs : List V} {ss : List Sl}, NewAll K H1 I' H' vs ss → NewAll K H I' H' vs ss
  | _, _, .nil => .nil
  | _, _, .cons h d t => .cons ⟨h.1, h.2.1, fun a z => ⟨n a (h.2.2 a z).1, (h.2.2 a z).2⟩⟩ d (t.back n)
theorem NewAll.newer {K : PySem.W.Frag} {H I' H' : Hp} : ∀ {vs : List V} {ss : List Sl}, NewAll K H I' H' vs ss → ∀ t ∈ ss, ∀ a ∈ foot t, H a = none
  | _, _, .nil, _, m => by cases m
  | _, _, .cons h d t, s, m => by
    rcases List.mem_cons.mp m with rfl | m
    · exact fun a z => (h.2.2 a z).1
    · exact t.newer s m
theorem lm_cons {QL : List Sl → List Sl → Prop} (h : VM m X e ρ W fun s ρ1 => LM m X es ρ1 W fun ss ρ2 => QL (s :: ss) ρ2) (hs : starEach (e :: es) X.env = (false, eval e X.env) :: starEach es X.env := by rfl) : LM m X (e :: es) ρ W QL := fun σ I H ok xk R f =>
  ⟨_, pa_cons pe_w pa_w hs, h σ I H ok xk _ fun v s ρ1 I1 H1 g1 r1 q1 => q1 σ I1 H1 (g1.env ok) (xk.step g1.step) _ fun vs ss ρ2 I2 H2 g2 r2 q2 => by
    refine f (v :: vs) (s :: ss) ρ2 I2 H2 (g1.trans g2) (.cons (r1.step (σ := σ) (r1.apart ok g1) g2.step) (fun a ha t ht z => ?_) (r2.back g1.nn)) q2
    obtain ⟨u, e⟩ := r1.1.there ha
    rw [r2.newer t ht a z] at e
    cases e⟩
end

/-! ### statements -/
structure DE where
  nx : List Sl → Prop
  rt : Bool → D → List Sl → Prop
  bk : List Sl → Prop := fun _ => False
  ct : List Sl → Prop := fun _ => False
/-- what is handed back -/
def RtOk (K : PySem.W.Frag) (H : Hp) (M : Addr → Prop) (I' H' : Hp) (v : V) : Bool → D → Prop
  | false, d => Rv K I' v d
  | true, d => ∃ p xs ds, v = .ref p ∧ d = .list ds ∧ (H p = none ∨ M p) ∧ I' p = none ∧ H' p = some (.lst xs) ∧ DqAll I' xs ds
theorem RsOk.rt {K : PySem.W.Frag} {H I' H' : Hp} {M : Addr → Prop} {v : V} {d : D} : ∀ {o : Bool}, RsOk K H I' H' v o d → RtOk K H M I' H' v o d
  | false, r => r
  | true, ⟨p, xs, ds, h1, h2, h3, h4⟩ => ⟨p, xs, ds, h1, h2, .inl h3, h4⟩
theorem RtOk.back {K : PySem.W.Frag} {I H I1 H1 I' H' : Hp} {M M1 : Addr → Prop} {v : V} {d : D} (st : Step I H M I1 H1 M1) : ∀ {o : Bool}, RtOk K H1 M1 I' H' v o d → RtOk K H M I' H' v o d
  | false, r => r
  | true, ⟨p, xs, ds, h1, h2, h3, h4⟩ => ⟨p, xs, ds, h1, h2, by
    rcases h3 with z | z
    · refine .inl ?_
      cases e : H p with
      | none => rfl
      | some o =>
        obtain ⟨u, e2⟩ := st.al p o e
        rw [z] at e2
        cases e2
    · exact (st.mm p z).symm, h4⟩
structure Fin (X : Cx) (ρ : List Sl) (I H : Hp) (E : DE) (T : Ends) : Prop where
  nx : ∀ σ' ρ' I' H', EnvOk X.K I' H' σ' ρ' → Step I H (Mt ρ) I' H' (Mt ρ') → E.nx ρ' → T.nx σ' H'
  rt : ∀ v o d σ' ρ' I' H', EnvOk X.K I' H' σ' ρ' → Step I H (Mt ρ) I' H' (Mt ρ') → RtOk X.K H (Mt ρ) I' H' v o d → E.rt o d ρ' → T.rt v H'
  bk : ∀ σ' ρ' I' H', EnvOk X.K I' H' σ' ρ' → Step I H (Mt ρ) I' H' (Mt ρ') → E.bk ρ' → T.bk σ' H'
  ct : ∀ σ' ρ' I' H', EnvOk X.K I' H' σ' ρ' → Step I H (Mt ρ) I' H' (Mt ρ') → E.ct ρ' → T.ct σ' H'
def SD (X : Cx) (ss : List Stmt) (ρ : List Sl) (W : Wx) (E : DE) : Prop := ∀ σ I H, EnvOk X.K I H σ ρ → XOk X W H ρ → ∀ T : Ends, Fin X ρ I H E T → wS X ss T σ H
def S1 (X : Cx) (st : Stmt) (ρ : List Sl) (W : Wx) (E : DE) : Prop := ∀ σ I H, EnvOk X.K I H σ ρ → XOk X W H ρ → ∀ T : Ends, Fin X ρ I H E T → w1 X st T σ H
theorem Fin.step {X : Cx} {ρ ρ1 : List Sl} {I H I1 H1 : Hp} {E : DE} {T : Ends} (k : Fin X ρ I H E T) (st : Step I H (Mt ρ) I1 H1 (Mt ρ1)) : Fin X ρ1 I1 H1 E T :=
  ⟨fun σ' ρ' I' H' ok s q => k.nx σ' ρ' I' H' ok (st.trans s) q, fun v o d σ' ρ' I' H' ok s r q => k.rt v o d σ' ρ' I' H' ok (st.trans s) (r.back st) q,
    fun σ' ρ' I' H' ok s q => k.bk σ' ρ' I' H' ok (st.trans s) q, fun σ' ρ' I' H' ok s q => k.ct σ' ρ' I' H' ok (st.trans s) q⟩

section
variable {X : Cx} {m : Bool} {ρ ρ1 : List Sl} {W : Wx} {a b c e : Expr} {es : List Expr} {pos p : Pos} {σ : L2.St} {I H I1 H1 : Hp} {E : DE} {st : Stmt} {ss : List Stmt}
theorem sd_re {ρ' : List Sl} (e : ρ = ρ') (h : SD X ss ρ' W E) : SD X ss ρ W E := by
  subst e
  exact h
theorem sd_nil (h : E.nx ρ) : SD X [] ρ W E := fun σ I H ok xk T k => ⟨_, pss_nil, k.nx σ ρ I H ok Step.refl h⟩
theorem sd_cons (h : S1 X st ρ W { E with nx := fun ρ1 => SD X ss ρ1 W E }) : SD X (st :: ss) ρ W E := fun σ I H ok xk T k =>
  ⟨_, pss_cons ps_w pss_w, h σ I H ok xk _ ⟨fun σ' ρ' I' H' ok' s q => q σ' I' H' ok' (xk.step s) T (k.step s), k.rt, k.bk, k.ct⟩⟩
theorem sd_one (h : S1 X st ρ W E) : SD X [st] ρ W E := fun σ I H ok xk T k => ⟨_, pss_one ps_w, h σ I H ok xk T k⟩
theorem sd_mono {E' : DE} (h : SD X ss ρ W E) (h1 : ∀ ρ, E.nx ρ → E'.nx ρ) (h2 : ∀ o d ρ, E.rt o d ρ → E'.rt o d ρ) (h3 : ∀ ρ, E.bk ρ → E'.bk ρ) (h4 : ∀ ρ, E.ct ρ → E'.ct ρ) : SD X ss ρ W E' := fun σ I H ok xk T k =>
  h σ I H ok xk T ⟨fun σ' ρ' I' H' o s q => k.nx σ' ρ' I' H' o s (h1 _ q), fun v o d σ' ρ' I' H' ok s r q => k.rt v o d σ' ρ' I' H' ok s r (h2 _ _ _ q), fun σ' ρ' I' H' o s q => k.bk σ' ρ' I' H' o s (h3 _ q), fun σ' ρ' I' H' o s q => k.ct σ' ρ' I' H' o s (h4 _ q)⟩
theorem s1_pass (h : E.nx ρ) : S1 X (.Pass pos) ρ W E := fun σ I H ok xk T k => ⟨_, ps_pass, k.nx σ ρ I H ok Step.refl h⟩
theorem s1_break (h : E.bk ρ) : S1 X (.Break pos) ρ W E := fun σ I H ok xk T k => ⟨_, ps_break, k.bk σ ρ I H ok Step.refl h⟩
theorem s1_cont (h : E.ct ρ) : S1 X (.Continue pos) ρ W E := fun σ I H ok xk T k => ⟨_, ps_continue, k.ct σ ρ I H ok Step.refl h⟩
/-- x = e -/
theorem s1_set (i : Nat) {x : Str} {pos' : Pos} (hN : X.N.Nodup) (h : VM false X e ρ W fun s ρ1 => E.nx (ρ1.set i s)) (hi : X.N[i]? = some x := by rfl) (hx : Loc X.env.scope x := by first | exact Or.inl rfl | exact Or.inr rfl) (hs : swapsWith e (some (.Name x pos')) pos.line X.env = pure false := by rfl)
    (hf : X.fn x = true ∨ X.env.scope.names.lookup x = some .local := by first | exact .inl rfl | exact .inr rfl | assumption) : S1 X (.Assign [.Name x pos'] e pos) ρ W E := fun σ I H ok xk T k =>
  ⟨_, ps_set hN hi hx pe_w hs hf, h σ I H ok xk _ fun v s ρ' I' H' g r q => by
    obtain ⟨o, st⟩ := r.put (i := i) ok g
    exact k.nx _ _ I' H' o st q⟩
/-- x, y = e, e' -/
theorem newAll_put {K : PySem.W.Frag} {H I' H' : Hp} {σ : L2.St} {ρ : List Sl} {i : Nat} {v : V} {s : Sl} (n : NewOk K H I' H' v s) (ok : EnvOk K I' H' σ ρ) (ap : ∀ a ∈ foot s, ¬ Mt ρ a) : EnvOk K I' H' (σ.set i (some v)) (ρ.set i s) := ok.put n.1 n.2.1 ap fun a h => (n.2.2 a h).2
theorem s1_par2 (i j : Nat) {x y : Str} {px py pt : Pos} {kt k2 pt2} (hc : X.calm = true) (hN : X.N.Nodup) (h : LM false X [a, b] ρ W fun ss ρ1 => ∃ s t, ss = [s, t] ∧ E.nx ((ρ1.set i s).set j t)) (hij : i ≠ j := by decide) (hi : X.N[i]? = some x := by rfl) (hj : X.N[j]? = some y := by rfl)
    (hx : X.env.scope.names.lookup x = some .local := by rfl) (hy : X.env.scope.names.lookup y = some .local := by rfl)
    (hw : swappedStores [.Tuple [.Name x px, .Name y py] kt pt] (.Tuple [a, b] k2 pt2) X.env = pure (some [x, y]) := by rfl)
    (hs : swapsWithSole [.Tuple [.Name x px, .Name y py] kt pt] (.Tuple [a, b] k2 pt2) pos.line X.env = pure false := by rfl) : S1 X (.Assign [.Tuple [.Name x px, .Name y py] kt pt] (.Tuple [a, b] k2 pt2) pos) ρ W E := fun σ I H ok xk T k =>
  ⟨_, ps_par hc hN hi hj hij hx hy pa_w hw hs, h σ I H ok xk _ fun vs ss ρ' I' H' g r ⟨s, t, e, q⟩ => by
    subst e
    cases r with
    | cons n1 d1 r =>
      cases r with
      | cons n2 d2 r =>
        cases r
        refine ⟨_, _, rfl, k.nx _ _ I' H' (newAll_put n2 (newAll_put n1 (g.env ok) (n1.apart ok g)) fun a ha z => ?_) ⟨g.step.ii, g.step.oth, g.step.fr, fun a z => ?_, g.step.al⟩ q⟩
        · rcases mt_set z with z | z
          · exact n2.apart ok g a ha z
          · exact d1 a z t (List.mem_singleton.mpr rfl) ha
        · rcases mt_set z with z | z
          · rcases mt_set z with z | z
            · exact g.step.mm a z
            · exact .inr (n1.2.2 a z).1
          · exact .inr (n2.2.2 a z).1⟩
theorem s1_par3 (i j l : Nat) {x y z : Str} {px py pz pt : Pos} {kt k2 pt2} (hc : X.calm = true) (hN : X.N.Nodup) (h : LM false X [a, b, c] ρ W fun ss ρ1 => ∃ s t u, ss = [s, t, u] ∧ E.nx (((ρ1.set i s).set j t).set l u)) (hij : i ≠ j := by decide) (hil : i ≠ l := by decide) (hjl : j ≠ l := by decide) (hi : X.N[i]? = some x := by rfl) (hj : X.N[j]? = some y := by rfl) (hl : X.N[l]? = some z := by rfl)
    (hx : X.env.scope.names.lookup x = some .local := by rfl) (hy : X.env.scope.names.lookup y = some .local := by rfl) (hz : X.env.scope.names.lookup z = some .local := by rfl)
    (hw : swappedStores [.Tuple [.Name x px, .Name y py, .Name z pz] kt pt] (.Tuple [a, b, c] k2 pt2) X.env = pure (some [x, y, z]) := by rfl)
    (hs : swapsWithSole [.Tuple [.Name x px, .Name y py, .Name z pz] kt pt] (.Tuple [a, b, c] k2 pt2) pos.line X.env = pure false := by rfl) : S1 X (.Assign [.Tuple [.Name x px, .Name y py, .Name z pz] kt pt] (.Tuple [a, b, c] k2 pt2) pos) ρ W E := fun σ I H ok xk T k =>
  ⟨_, ps_par3 hc hN hi hj hl hij hil hjl hx hy hz pa_w hw hs, h σ I H ok xk _ fun vs ss ρ' I' H' g r ⟨s, t, u, e, q⟩ => by
    subst e
    cases r with
    | cons n1 d1 r =>
      cases r with
      | cons n2 d2 r =>
        cases r with
        | cons n3 d3 r =>
          cases r
          refine ⟨_, _, _, rfl, k.nx _ _ I' H' (newAll_put n3 (newAll_put n2 (newAll_put n1 (g.env ok) (n1.apart ok g)) fun a ha z => ?_) fun a ha z => ?_) ⟨g.step.ii, g.step.oth, g.step.fr, fun a z => ?_, g.step.al⟩ q⟩
          · rcases mt_set z with z | z
            · exact n2.apart ok g a ha z
            · exact d1 a z t (by simp) ha
          · rcases mt_set z with z | z
            · rcases mt_set z with z | z
              · exact n3.apart ok g a ha z
              · exact d1 a z u (by simp) ha
            · exact d2 a z u (by simp) ha
          · rcases mt_set z with z | z
            · rcases mt_set z with z | z
              · rcases mt_set z with z | z
                · exact g.step.mm a z
                · exact .inr (n1.2.2 a z).1
              · exact .inr (n2.2.2 a z).1
            · exact .inr (n3.2.2 a z).1⟩
/-- e alone -/
theorem s1_expr (h : EM false X e ρ W fun _ _ ρ1 => E.nx ρ1) (hs : swapsWith e none pos.line X.env = pure false := by rfl) : S1 X (.Expr e pos) ρ W E := fun σ I H ok xk T k =>
  ⟨_, ps_expr pe_w hs, h.run ok xk fun v _ d ρ' I' H' g r q => k.nx _ _ I' H' (g.env ok) g.step q⟩
theorem s1_ret (h : EM false X e ρ W fun o d ρ1 => E.rt o d ρ1) : S1 X (.Return (some e) pos) ρ W E := fun σ I H ok xk T k =>
  ⟨_, ps_ret pe_w, h σ I H ok xk _ fun v o d ρ' I' H' g r q => k.rt v o d σ ρ' I' H' (g.env ok) g.step r.rt q⟩
/-- .. as data, whatever it is -/
theorem s1_retD (h : EM false X e ρ W fun _ d ρ1 => E.rt false d ρ1) : S1 X (.Return (some e) pos) ρ W E := fun σ I H ok xk T k =>
  ⟨_, ps_ret pe_w, h.run ok xk fun v o d ρ' I' H' g r q => k.rt v false d σ ρ' I' H' (g.env ok) g.step r q⟩
/-- a list of one's own is handed back -/
theorem s1_retOwn (i : Nat) {x : Str} {q : Addr} {ds : List D} {p' : Pos} (h0 : ρ[i]? = some (.mo q (.lst ds))) (h : E.rt true (.list ds) ρ) (hN : X.N[i]? = some x := by rfl) (hv : Vis X.env.scope x := by first | exact Or.inl rfl | exact Or.inr (Or.inl rfl) | exact Or.inr (Or.inr rfl))
    (hd : (x == ("__debug__" : Str)) = false := by decide) (hcd : (x == ("__classdict__" : Str)) = false := by decide) : S1 X (.Return (some (.Name x p')) pos) ρ W E := fun σ I H ok xk T k => by
  obtain ⟨v, e, r, o, ho, xs, rfl, t⟩ := ok.at h0 (fun z => nomatch z)
  subst r
  exact ⟨_, ps_ret (pe_var hN hv hd hcd), _, e, k.rt _ true _ σ ρ I H ok Step.refl ⟨q, xs, ds, rfl, rfl, .inr ⟨i, by rw [ft_at h0]; exact List.mem_singleton.mpr rfl⟩, ok.out i q (by rw [ft_at h0]; exact List.mem_singleton.mpr rfl), ho, t⟩ h⟩
theorem s1_retN (h : E.rt false .none ρ) : S1 X (.Return none pos) ρ W E := fun σ I H ok xk T k => ⟨_, ps_retN, k.rt _ false .none σ ρ I H ok Step.refl Rv.mkNon h⟩
theorem s1_if {x y : List Stmt} (h : TM false X c ρ W fun k ρ1 => (k = true → SD X x ρ1 W E) ∧ (k = false → SD X y ρ1 W E)) : S1 X (.If c x y pos) ρ W E := fun σ I H ok xk T k =>
  ⟨_, ps_if pt_w pss_w pss_w, h σ I H ok xk _ fun b ρ1 I1 H1 g ⟨q1, q2⟩ => by
    cases b with
    | true => exact iteT (q1 rfl σ I1 H1 (g.env ok) (xk.step g.step) T (k.step g.step))
    | false => exact iteF (q2 rfl σ I1 H1 (g.env ok) (xk.step g.step) T (k.step g.step))⟩
theorem s1_never (h : False) : S1 X st ρ W E := h.elim
end
end Tt

namespace Tt
open PySem PySem.Spec PyProof.Rows L2

/-! ### targets -/
inductive Tg where
  | nm (i : Nat)
  | tp (ts : List Tg)
mutual
def Tg.g (K : PySem.W.Frag) : Tg → TG
  | .nm i => gName i
  | .tp ts => gTup K ts.length (Tg.gs K ts)
def Tg.gs (K : PySem.W.Frag) : List Tg → TGs
  | [] => gNil
  | t :: ts => gCons (Tg.g K t) (Tg.gs K ts)
end
mutual
def Tg.put : Tg → D → List Sl → Option (List Sl)
  | .nm i, d, ρ => some (ρ.set i (.va d))
  | .tp ts, .tuple ds, ρ => Tg.puts ts ds ρ
  | .tp _, _, _ => none
def Tg.puts : List Tg → List D → List Sl → Option (List Sl)
  | [], [], ρ => some ρ
  | t :: ts, d :: ds, ρ => match Tg.put t d ρ with
    | some ρ' => Tg.puts ts ds ρ'
    | none => none
  | _, _, _ => none
end
mutual
def Tg.slots : Tg → List Nat
  | .nm i => [i]
  | .tp ts => Tg.slotss ts
def Tg.slotss : List Tg → List Nat
  | [] => []
  | t :: ts => Tg.slots t ++ Tg.slotss ts
end
structure PutOk (K : PySem.W.Frag) (I H : Hp) (σ σ' : L2.St) (ρ ρ' : List Sl) (vs : List Nat) : Prop where
  env : EnvOk K I H σ' ρ'
  mt : ∀ a, Mt ρ' a → Mt ρ a
  same : ∀ j, j ∉ vs → σ'[j]? = σ[j]?
  sameR : ∀ j, j ∉ vs → ρ'[j]? = ρ[j]?
  len : σ'.length = σ.length
section
variable {K : PySem.W.Frag} {I H : Hp}
theorem PutOk.trans {σ σ1 σ2 : L2.St} {ρ ρ1 ρ2 : List Sl} {vs ws : List Nat} (a : PutOk K I H σ σ1 ρ ρ1 vs) (b : PutOk K I H σ1 σ2 ρ1 ρ2 ws) : PutOk K I H σ σ2 ρ ρ2 (vs ++ ws) :=
  ⟨b.env, fun x h => a.mt x (b.mt x h), fun j h => (b.same j fun z => h (List.mem_append_right _ z)).trans (a.same j fun z => h (List.mem_append_left _ z)),
    fun j h => (b.sameR j fun z => h (List.mem_append_right _ z)).trans (a.sameR j fun z => h (List.mem_append_left _ z)), b.len.trans a.len⟩
mutual
theorem Tg.run : ∀ (t : Tg) {v : V} {d : D} {σ : L2.St} {ρ ρ' : List Sl}, EnvOk K I H σ ρ → Rv K I v d → Tg.put t d ρ = some ρ' →
    ∃ σ', PutOk K I H σ σ' ρ ρ' (Tg.slots t) ∧ ∀ Q : L2.St → Hp → Prop, Q σ' H → Tg.g K t v σ H Q
  | .nm i, v, d, σ, ρ, ρ', ok, r, e => by
    have e' : ρ.set i (.va d) = ρ' := by
      simp only [Tg.put] at e
      exact Option.some.inj e
    subst e'
    refine ⟨σ.set i (some v), ⟨ok.put (s := .va d) r List.nodup_nil (fun _ h => by cases h) (fun _ h => by cases h), fun a h => ?_, fun j h => ?_, fun j h => ?_, List.length_set⟩, fun Q q => by
      unfold Tg.g
      exact q⟩
    · rcases mt_set h with z | z
      · exact z
      · cases z
    · refine List.getElem?_set_ne fun z => h ?_
      subst z
      unfold Tg.slots
      exact List.mem_singleton.mpr rfl
    · refine List.getElem?_set_ne fun z => h ?_
      subst z
      unfold Tg.slots
      exact List.mem_singleton.mpr rfl
  | .tp ts, v, .tuple ds, σ, ρ, ρ', ok, r, e => by
    have e' : Tg.puts ts ds ρ = some ρ' := by
      simp only [Tg.put] at e
      exact e
    obtain ⟨a, xs, rfl, hq, ha⟩ := r.tup
    obtain ⟨σ', p, q⟩ := Tg.runs ts ok ha e'
    refine ⟨σ', by
      unfold Tg.slots
      exact p, fun Q k => by
      unfold Tg.g
      exact ⟨a, xs, rfl, SqT.of (ok.sub.tup hq), (q Q k).1, (q Q k).2⟩⟩
  | .tp _, _, .none, _, _, _, _, _, e => by simp [Tg.put] at e
  | .tp _, _, .bool _, _, _, _, _, _, e => by simp [Tg.put] at e
  | .tp _, _, .int _, _, _, _, _, _, e => by simp [Tg.put] at e
  | .tp _, _, .str _, _, _, _, _, _, e => by simp [Tg.put] at e
  | .tp _, _, .list _, _, _, _, _, _, e => by simp [Tg.put] at e
  | .tp _, _, .dict _, _, _, _, _, _, e => by simp [Tg.put] at e
theorem Tg.runs : ∀ (ts : List Tg) {vs : List V} {ds : List D} {σ : L2.St} {ρ ρ' : List Sl}, EnvOk K I H σ ρ → DqAll I vs ds → Tg.puts ts ds ρ = some ρ' →
    ∃ σ', PutOk K I H σ σ' ρ ρ' (Tg.slotss ts) ∧ ∀ Q : L2.St → Hp → Prop, Q σ' H → vs.length = ts.length ∧ Tg.gs K ts vs σ H Q
  | [], _, _, σ, ρ, ρ', ok, .nil, e => by
    have e' : ρ = ρ' := by
      simp only [Tg.puts] at e
      exact Option.some.inj e
    subst e'
    refine ⟨σ, ⟨ok, fun _ h => h, fun _ _ => rfl, fun _ _ => rfl, rfl⟩, fun Q q => ⟨rfl, ?_⟩⟩
    unfold Tg.gs
    exact ⟨rfl, q⟩
  | [], _, _, _, _, _, _, .cons _ _, e => by simp [Tg.puts] at e
  | _ :: _, _, _, _, _, _, _, .nil, e => by simp [Tg.puts] at e
  | t :: ts, _, _, σ, ρ, ρ', ok, .cons h t2, e => by
    simp only [Tg.puts] at e
    split at e
    · rename_i ρ1 e1
      obtain ⟨σ1, p1, q1⟩ := Tg.run t ok ⟨.inl h⟩ e1
      obtain ⟨σ2, p2, q2⟩ := Tg.runs ts p1.env t2 e
      refine ⟨σ2, by
        unfold Tg.slotss
        exact p1.trans p2, fun Q q => ⟨?_, ?_⟩⟩
      · rw [List.length_cons, List.length_cons, (q2 Q q).1]
      · unfold Tg.gs
        exact ⟨_, _, rfl, q1 _ (q2 Q q).2⟩
    · cases e
end
end

/-! ### what is walked -/
structure WalkD (K : PySem.W.Frag) (J : It) (I0 : Hp) (its : List D) : Prop where
  w : Walk J its.length (Sub I0) fun i H v H' => ∃ d, its[i]? = some d ∧ ∀ I, Same I0 I → Sub I H → ∃ I', Grow I H I' H' ∧ Rv K I' v d
def IM (m : Bool) (X : Cx) (tg iter : Expr) (ρ : List Sl) (W : Wx) (Q : List D → List Sl → Prop) : Prop :=
  ∀ σ I H, EnvOk X.K I H σ ρ → XOk X W H ρ → ∀ R : It → Hp → Prop, (∀ J its ρ' I' H', Go m X.K σ ρ I H ρ' I' H' → WalkD X.K J I' its → Q its ρ' → R J H') → wI X tg iter σ H R
section
variable {X : Cx} {m : Bool} {ρ ρ1 : List Sl} {W : Wx} {a b c e tg iter elt : Expr} {es : List Expr} {pos p : Pos} {σ : L2.St} {I H I1 H1 : Hp} {E : DE} {Q : List D → List Sl → Prop}
theorem WalkD.list {K : PySem.W.Frag} {I : Hp} {q : Addr} {xs : List V} {ds : List D} (h : I q = some (.lst xs)) (t : DqAll I xs ds) : WalkD K (Itl K q) I ds :=
  ⟨by
    have w := walk_list (K := K) (a := q) (xs := xs)
    rw [t.len] at w
    refine w.mono (fun H s => SqL.of (s.lst h)) fun i H v H' hi s y => ?_
    obtain ⟨e, hv⟩ := y
    subst e
    obtain ⟨d, hd, r⟩ := t.getV hv
    exact ⟨d, hd, fun I1 ii s1 => ⟨I1, Grow.refl s1, ⟨.inl (Dq.same ii r)⟩⟩⟩⟩
theorem WalkD.tuple {K : PySem.W.Frag} {I : Hp} {q : Addr} {xs : List V} {ds : List D} (h : I q = some (.tup xs)) (t : DqAll I xs ds) : WalkD K (Itt K q) I ds :=
  ⟨by
    have w := walk_tup (K := K) (a := q) (xs := xs)
    rw [t.len] at w
    refine w.mono (fun H s => SqT.of (s.tup h)) fun i H v H' hi s y => ?_
    obtain ⟨e, hv⟩ := y
    subst e
    obtain ⟨d, hd, r⟩ := t.getV hv
    exact ⟨d, hd, fun I1 ii s1 => ⟨I1, Grow.refl s1, ⟨.inl (Dq.same ii r)⟩⟩⟩⟩
theorem im_list (h : EM m X iter ρ W fun _ d ρ1 => ∃ ds, d = .list ds ∧ Q ds ρ1) : IM m X tg iter ρ W Q := fun σ I H ok xk R f =>
  ⟨_, pi_list pe_w, h.run ok xk fun v o d ρ1 I1 H1 g r ⟨ds, e, q⟩ => by
    subst e
    obtain ⟨q', xs, rfl, hq, t⟩ := r.lst
    exact ⟨q', rfl, ⟨xs, SqL.of ((g.env ok).sub.lst hq)⟩, f _ ds ρ1 I1 H1 g (.list hq t) q⟩⟩
theorem im_tuple (h : EM m X iter ρ W fun _ d ρ1 => ∃ ds, d = .tuple ds ∧ Q ds ρ1) : IM m X tg iter ρ W Q := fun σ I H ok xk R f =>
  ⟨_, pi_tup pe_w, h.run ok xk fun v o d ρ1 I1 H1 g r ⟨ds, e, q⟩ => by
    subst e
    obtain ⟨q', xs, rfl, hq, t⟩ := r.tup
    exact ⟨q', rfl, ⟨xs, SqT.of ((g.env ok).sub.tup hq)⟩, f _ ds ρ1 I1 H1 g (.tuple hq t) q⟩⟩
def chars (z : Str) : List D := z.cps.toList.map fun c => .str ⟨#[c]⟩
theorem im_str (h : EM m X iter ρ W fun _ d ρ1 => ∃ z, d = .str z ∧ Q (chars z) ρ1) : IM m X tg iter ρ W Q := fun σ I H ok xk R f =>
  ⟨_, pi_str pe_w, h.run ok xk fun v o d ρ1 I1 H1 g r ⟨z, e, q⟩ => by
    subst e
    refine ⟨z, r.str, f _ (chars z) ρ1 I1 H1 g ⟨?_⟩ q⟩
    have l : z.cps.size = (chars z).length := by simp [chars]
    rw [← l]
    refine walk_str.mono (fun _ _ => trivial) fun i H v H' hi s y => ?_
    obtain ⟨rfl, c, hc, rfl⟩ := y
    exact ⟨.str ⟨#[c]⟩, by simp [chars, hc], fun I1 ii s1 => ⟨I1, Grow.refl s1, .mkStr⟩⟩⟩
def rngD (lo : Int) (n : Nat) : List D := (List.range n).map fun (i : Nat) => .int (lo + (i : Int))
theorem WalkD.range {K : PySem.W.Frag} {I : Hp} {lo : Int} {n : Nat} : WalkD K (Itr lo n) I (rngD lo n) := ⟨by
    have l : (rngD lo n).length = n := by simp [rngD]
    rw [l]
    refine walk_range.mono (fun _ _ => trivial) fun i H v H' hi s y => ?_
    obtain ⟨rfl, rfl⟩ := y
    exact ⟨.int (lo + (i : Int)), by simp [rngD, hi], fun I1 ii s1 => ⟨I1, Grow.refl s1, .mkInt⟩⟩⟩
theorem im_range1 (hm : X.mg "range" = none) (h : EM m X a ρ W fun _ d ρ1 => ∃ n : Int, d = .int n ∧ -(2 ^ 62) ≤ n ∧ n < 2 ^ 62 ∧ Q (rngD 0 n.toNat) ρ1) (hg : Gl X "range" := by rfl) (hs : starEach [a] X.env = [(false, eval a X.env)] := by rfl) : IM m X tg (.Call (.Name "range" p) [a] [] pos) ρ W Q := fun σ I H ok xk R f =>
  ⟨_, pi_range1 hg hm (pa_cons pe_w pa_nil hs) hs, h.run ok xk fun v o d ρ1 I1 H1 g r ⟨n, e, l, u, q⟩ => by
    subst e
    rw [r.int]
    exact ⟨n, rfl, l, u, f _ _ ρ1 I1 H1 g .range q⟩⟩
theorem im_range2 (hm : X.mg "range" = none) (h : EM m X a ρ W fun _ d ρ1 => EM m X b ρ1 W fun _ d' ρ2 => ∃ i n : Int, d = .int i ∧ d' = .int n ∧ -(2 ^ 62) ≤ i ∧ i < 2 ^ 62 ∧ -(2 ^ 62) ≤ n ∧ n < 2 ^ 62 ∧ Q (rngD i (n - i).toNat) ρ2) (hg : Gl X "range" := by rfl)
    (hs : starEach [a, b] X.env = [(false, eval a X.env), (false, eval b X.env)] := by rfl) (hs2 : starEach [b] X.env = [(false, eval b X.env)] := by rfl) (hs3 : starEach [a, b] X.env = (false, eval a X.env) :: starEach [b] X.env := by rfl) : IM m X tg (.Call (.Name "range" p) [a, b] [] pos) ρ W Q := fun σ I H ok xk R f =>
  ⟨_, pi_range2 hg hm (pa_cons pe_w (pa_cons pe_w pa_nil hs2) hs3) hs hs2, h.run ok xk fun v o d ρ1 I1 H1 g1 r1 q1 => q1.run (g1.env ok) (xk.step g1.step) fun u o d' ρ2 I2 H2 g2 r2 ⟨i, n, e, e2, l1, l2, l3, l4, q⟩ => by
    subst e e2
    rw [r1.int, r2.int]
    exact ⟨i, n, rfl, ⟨l1, l2, l3, l4⟩, f _ _ ρ2 I2 H2 (g1.trans g2) .range q⟩⟩

/-! ### for, while -/
theorem s1_for {body : List Stmt} (t : Tg) (hp : PassesOwn (model X.prog X.w) X.A X.env X.xe) (hc : X.calm = true) (hg : PG X tg (Tg.g X.K t))
    (h : IM false X tg iter ρ W fun its ρ1 => ∃ P : Nat → List Sl → Prop, P 0 ρ1 ∧ (∀ i d ρ2, its[i]? = some d → P i ρ2 → ∃ ρ3, Tg.put t d ρ2 = some ρ3 ∧ SD X body ρ3 W { nx := P (i + 1), ct := P (i + 1), bk := E.nx, rt := E.rt }) ∧ ∀ ρ2, P its.length ρ2 → E.nx ρ2)
    (hs : ∀ x, foldedSetIterable iter X.env x = pure x := by intro _; rfl) : S1 X (.For tg iter body [] pos) ρ W E := fun σ I H ok xk T k =>
  ⟨_, ps_for hp hc pi_w hg pss_w hs, h σ I H ok xk _ fun J its ρ1 I1 H1 g w ⟨P, p0, ps, pd⟩ => by
    refine for_it w.w (fun i σ' H' => ∃ ρ' I', EnvOk X.K I' H' σ' ρ' ∧ Step I H (Mt ρ) I' H' (Mt ρ') ∧ Same I1 I' ∧ P i ρ') ⟨ρ1, I1, g.env ok, g.step, Same.refl _, p0⟩ (fun i σ' H' _ ⟨ρ', I', o, _, ii, _⟩ => o.sub.same ii) (fun i x σ' H' H'' hi ⟨ρ', I', o, st, ii, pi⟩ y => ?_) fun σ' H' ⟨ρ', I', o, st, ii, pn⟩ => k.nx σ' ρ' I' H' o st (pd ρ' pn)
    obtain ⟨d, hd, y⟩ := y
    obtain ⟨I2, g2, r2⟩ := y I' ii o.sub
    obtain ⟨ρ3, e3, body⟩ := ps i d ρ' hd pi
    obtain ⟨σ3, p3, q3⟩ := Tg.run t (o.grow g2) r2 e3
    have st3 : Step I H (Mt ρ) I2 H'' (Mt ρ3) := by
      have s := st.trans (g2.step (Mt ρ'))
      exact ⟨s.ii, s.oth, s.fr, fun a h => s.mm a (p3.mt a h), s.al⟩
    refine q3 _ (body σ3 I2 H'' p3.env (xk.step st3) _ ?_)
    exact ⟨fun σ4 ρ4 I4 H4 o4 s4 q4 => ⟨ρ4, I4, o4, st3.trans s4, (ii.trans g2.ii).trans s4.ii, q4⟩, fun v oo d' σ4 ρ4 I4 H4 o4 s4 r4 q4 => k.rt v oo d' σ4 ρ4 I4 H4 o4 (st3.trans s4) (r4.back st3) q4,
      fun σ4 ρ4 I4 H4 o4 s4 q4 => k.nx σ4 ρ4 I4 H4 o4 (st3.trans s4) q4, fun σ4 ρ4 I4 H4 o4 s4 q4 => ⟨ρ4, I4, o4, st3.trans s4, (ii.trans g2.ii).trans s4.ii, q4⟩⟩⟩
/-- P: the word, by a number that falls -/
theorem s1_while {body : List Stmt} (hp : PassesOwn (model X.prog X.w) X.A X.env X.xe) (P : Nat → List Sl → Prop) (n : Nat) (h0 : P n ρ)
    (h : ∀ n ρ1, P n ρ1 → TM false X c ρ1 W fun k ρ2 => (k = true → SD X body ρ2 W { nx := fun ρ3 => ∃ n', n' < n ∧ P n' ρ3, ct := fun ρ3 => ∃ n', n' < n ∧ P n' ρ3, bk := E.nx, rt := E.rt }) ∧ (k = false → E.nx ρ2)) : S1 X (.While c body [] pos) ρ W E := fun σ I H ok xk T k =>
  ⟨_, ps_while hp pt_w pss_w, fun n σ' H' => ∃ ρ' I', EnvOk X.K I' H' σ' ρ' ∧ Step I H (Mt ρ) I' H' (Mt ρ') ∧ P n ρ', ⟨n, ρ, I, ok, Step.refl, h0⟩, fun n σ' H' ⟨ρ', I', o, st, pn⟩ => by
    refine h n ρ' pn σ' I' H' o (xk.step st) _ fun b ρ2 I2 H2 g ⟨q1, q2⟩ => ?_
    have st2 := st.trans g.step
    cases b with
    | false => exact iteF (k.nx σ' ρ2 I2 H2 (g.env o) st2 (q2 rfl))
    | true =>
      refine iteT ⟨fun σ3 H3 => ∃ n', n' < n ∧ ∃ ρ3 I3, EnvOk X.K I3 H3 σ3 ρ3 ∧ Step I H (Mt ρ) I3 H3 (Mt ρ3) ∧ P n' ρ3, fun σ3 H3 ⟨n', l, q⟩ => ⟨n', l, q⟩, q1 rfl σ' I2 H2 (g.env o) (xk.step st2) _ ?_⟩
      exact ⟨fun σ4 ρ4 I4 H4 o4 s4 ⟨n', l, q4⟩ => ⟨n', l, ρ4, I4, o4, st2.trans s4, q4⟩, fun v oo d' σ4 ρ4 I4 H4 o4 s4 r4 q4 => k.rt v oo d' σ4 ρ4 I4 H4 o4 (st2.trans s4) (r4.back st2) q4,
        fun σ4 ρ4 I4 H4 o4 s4 q4 => k.nx σ4 ρ4 I4 H4 o4 (st2.trans s4) q4, fun σ4 ρ4 I4 H4 o4 s4 ⟨n', l, q4⟩ => ⟨n', l, ρ4, I4, o4, st2.trans s4, q4⟩⟩⟩
/-- (a, b, ..) = e, a tuple -/
theorem s1_unpack (t : Tg) (hg : PG X tg (Tg.g X.K t)) (h : EM false X e ρ W fun _ d ρ1 => ∃ ρ2, Tg.put t d ρ1 = some ρ2 ∧ E.nx ρ2) (hs : swapsWithSole [tg] e pos.line X.env = pure false := by rfl) (hw : swappedStores [tg] e X.env = pure none := by rfl) (h1 : List.map (fun x => x.snd) (assignEach [tg] X.env) = [assign tg X.env] := by rfl) : S1 X (.Assign [tg] e pos) ρ W E := fun σ I H ok xk T k =>
  ⟨_, ps_asg pe_w hg hs hw h1, h.run ok xk fun v o d ρ1 I1 H1 g r ⟨ρ2, e2, q⟩ => by
    obtain ⟨σ2, p2, q2⟩ := Tg.run t (g.env ok) r e2
    have st := g.step
    exact q2 _ (k.nx σ2 ρ2 I1 H1 p2.env ⟨st.ii, st.oth, st.fr, fun a h => st.mm a (p2.mt a h), st.al⟩ q)⟩
end

/-! ### comprehensions -/
def wipeS (ρ : List Sl) : List Nat → List Sl
  | [] => ρ
  | v :: vs => (wipeS ρ vs).set v .no
def backS (vs : List Nat) (ρ2 ρ5 : List Sl) : List Sl := (List.range ρ2.length).map fun i => if i ∈ vs then ρ2.getD i .no else ρ5.getD i .no
theorem wipeS_len (ρ : List Sl) : ∀ vs, (wipeS ρ vs).length = ρ.length
  | [] => rfl
  | v :: vs => by unfold wipeS; rw [List.length_set, wipeS_len ρ vs]
theorem wipeS_out {ρ : List Sl} {i : Nat} : ∀ {vs : List Nat}, i ∉ vs → (wipeS ρ vs)[i]? = ρ[i]?
  | [], _ => rfl
  | v :: vs, h => by
    have h1 : v ≠ i := fun e => h (by rw [e]; exact List.mem_cons_self)
    unfold wipeS
    rw [List.getElem?_set_ne h1]
    exact wipeS_out fun m => h (List.mem_cons_of_mem _ m)
theorem wipeS_in {ρ : List Sl} {i : Nat} : ∀ {vs : List Nat}, i ∈ vs → i < ρ.length → (wipeS ρ vs)[i]? = some .no
  | [], h, _ => by cases h
  | v :: vs, h, l => by
    unfold wipeS
    by_cases z : v = i
    · subst z
      rw [List.getElem?_set_self (by rw [wipeS_len]; exact l)]
    · rw [List.getElem?_set_ne z]
      rcases List.mem_cons.mp h with e | h
      · exact absurd e.symm z
      · exact wipeS_in h l
theorem wipe_in {σ : L2.St} {i : Nat} : ∀ {vs : List Nat}, i ∈ vs → i < σ.length → (wipe σ vs)[i]? = some none
  | [], h, _ => by cases h
  | v :: vs, h, l => by
    unfold wipe
    by_cases z : v = i
    · subst z
      rw [List.getElem?_set_self (by rw [wipe_length]; exact l)]
    · rw [List.getElem?_set_ne z]
      rcases List.mem_cons.mp h with e | h
      · exact absurd e.symm z
      · exact wipe_in h l
section
variable {K : PySem.W.Frag} {I H I' H' : Hp} {σ : L2.St} {ρ ρ' : List Sl} {m : Bool} {vs : List Nat}
theorem ft_wipe {a : Addr} {j : Nat} (h : a ∈ ft (wipeS ρ vs) j) : a ∈ ft ρ j ∧ j ∉ vs := by
  by_cases z : j ∈ vs
  · by_cases l : j < ρ.length
    · rw [ft_at (wipeS_in z l)] at h
      cases h
    · rw [ft_no (List.getElem?_eq_none (by rw [wipeS_len]; omega))] at h
      cases h
  · refine ⟨?_, z⟩
    unfold ft at h ⊢
    rw [wipeS_out z] at h
    exact h
theorem EnvOk.wiped (ok : EnvOk K I H σ ρ) : EnvOk K I H (wipe σ vs) (wipeS ρ vs) := by
  refine ⟨by rw [wipe_length, wipeS_len, ok.len], fun i s e => ?_, fun i => ?_, fun i j a h1 h2 => ok.dj i j a (ft_wipe h1).1 (ft_wipe h2).1, fun i a h => ok.out i a (ft_wipe h).1, ok.sub⟩
  · by_cases z : i ∈ vs
    · have l : i < ρ.length := by
        have := (List.getElem?_eq_some_iff.mp e).1
        rwa [wipeS_len] at this
      rw [wipeS_in z l] at e
      cases e
      rw [wipe_in z (by rw [ok.len]; exact l)]
      trivial
    · rw [wipeS_out z] at e
      rw [wipe_out z]
      exact ok.ok i s e
  · by_cases z : i ∈ vs
    · have : ft (wipeS ρ vs) i = [] := by
        cases q : ft (wipeS ρ vs) i with
        | nil => rfl
        | cons a r => exact absurd z (ft_wipe (a := a) (ρ := ρ) (vs := vs) (by rw [q]; exact List.mem_cons_self)).2
      rw [this]
      exact List.nodup_nil
    · have : ft (wipeS ρ vs) i = ft ρ i := by
        unfold ft
        rw [wipeS_out z]
      rw [this]
      exact ok.nd i
theorem backS_at {ρ5 : List Sl} {i : Nat} (l : i < ρ.length) : (backS vs ρ ρ5)[i]? = some (if i ∈ vs then ρ.getD i .no else ρ5.getD i .no) := by
  unfold backS
  rw [List.getElem?_map, List.getElem?_range l]
  rfl
theorem backS_len {ρ5 : List Sl} : (backS vs ρ ρ5).length = ρ.length := by simp [backS]
theorem getD_some {α : Type} {l : List α} {i : Nat} {d s : α} (e : l[i]? = some s) : l.getD i d = s := by rw [List.getD_eq_getElem?_getD, e]; rfl
theorem backS_in {ρ5 : List Sl} {i : Nat} (z : i ∈ vs) : (backS vs ρ ρ5)[i]? = ρ[i]? := by
  by_cases l : i < ρ.length
  · rw [backS_at l, if_pos z, List.getD_eq_getElem?_getD, List.getElem?_eq_getElem l]
    rfl
  · rw [List.getElem?_eq_none (by rw [backS_len]; omega), List.getElem?_eq_none (by omega)]
theorem backS_out {ρ5 : List Sl} {i : Nat} (z : i ∉ vs) (l5 : ρ5.length = ρ.length) : (backS vs ρ ρ5)[i]? = ρ5[i]? := by
  by_cases l : i < ρ.length
  · rw [backS_at l, if_neg z, List.getD_eq_getElem?_getD, List.getElem?_eq_getElem (by omega)]
    rfl
  · rw [List.getElem?_eq_none (by rw [backS_len]; omega), List.getElem?_eq_none (by omega)]
theorem ft_back {ρ5 : List Sl} {i : Nat} (l5 : ρ5.length = ρ.length) : ft (backS vs ρ ρ5) i = if i ∈ vs then ft ρ i else ft ρ5 i := by
  unfold ft
  by_cases z : i ∈ vs
  · rw [backS_in z, if_pos z]
  · rw [backS_out z l5, if_neg z]
/-- behind a block's turn: the slots of one's own again -/
theorem Go.back {σ3 : L2.St} {ρ3 ρ5 : List Sl} (ok : EnvOk K I H σ ρ) (p : PutOk K I H (wipe σ vs) σ3 (wipeS ρ vs) ρ3 vs) (g : Go m K σ3 ρ3 I H ρ5 I' H') : Go m K σ ρ I H (backS vs ρ ρ5) I' H' := by
  have l3 : ρ3.length = ρ.length := by rw [← p.env.len, p.len, wipe_length, ok.len]
  cases m with
  | true =>
    obtain ⟨rfl, g⟩ := g
    refine ⟨List.ext_getElem? fun i => ?_, g⟩
    by_cases z : i ∈ vs
    · exact backS_in z
    · rw [backS_out z l3, p.sameR i z, wipeS_out z]
  | false =>
    obtain ⟨ok5, st, mt⟩ := g
    have l5 : ρ5.length = ρ.length := by rw [← ok5.len, p.env.len, l3]
    have far : ∀ i a, i ∈ vs → a ∈ ft ρ i → ¬ Mt ρ3 a := fun i a z h q => by
      obtain ⟨j, hj⟩ := p.mt a q
      obtain ⟨h1, h2⟩ := ft_wipe hj
      exact h2 (by rw [← ok.dj i j a h h1]; exact z)
    have near : ∀ a, Mt ρ3 a → Mt ρ a := fun a q => by
      obtain ⟨j, hj⟩ := p.mt a q
      exact ⟨j, (ft_wipe hj).1⟩
    have mtb : ∀ a, Mt (backS vs ρ ρ5) a → Mt ρ a := fun a ⟨i, h⟩ => by
      rw [ft_back l5] at h
      split at h
      · exact ⟨i, h⟩
      · exact near a (mt a ⟨i, h⟩)
    refine ⟨⟨by rw [backS_len]; exact ok.len, fun i s e => ?_, fun i => ?_, fun i j a h1 h2 => ?_, fun i a h => ?_, ok5.sub⟩, ⟨st.ii, fun a o e n => st.oth a o e fun q => n (near a q), fun a o e z n => st.fr a o e z fun q => n (near a q), fun a h => .inl (mtb a h), st.al⟩, mtb⟩
    · by_cases z : i ∈ vs
      · rw [backS_in z] at e
        exact (ok.ok i s e).grow st.ii fun q o hq e2 => st.oth q o e2 (far i q z (by rw [ft_at e]; exact hq))
      · rw [backS_out z l5] at e
        have q := ok5.ok i s e
        rw [p.same i z, wipe_out z] at q
        exact q
    · rw [ft_back l5]
      split
      · exact ok.nd i
      · exact ok5.nd i
    · rw [ft_back l5] at h1 h2
      split at h1 <;> split at h2
      · exact ok.dj i j a h1 h2
      · rename_i z1 z2
        exact absurd (mt a ⟨j, h2⟩) (far i a z1 h1)
      · rename_i z1 z2
        exact absurd (mt a ⟨i, h1⟩) (far j a z2 h2)
      · exact ok5.dj i j a h1 h2
    · rw [ft_back l5] at h
      split at h
      · rename_i z
        obtain ⟨o, e⟩ := ok.there ⟨i, h⟩
        exact st.fr a o e (ok.out i a h) (far i a z h)
      · exact ok5.out i a h
theorem Go.dark {D : Addr} {o : HO} (ok : EnvOk K I H σ ρ) (g : Go m K σ ρ I H ρ' I' H') (n : H D = none) (ni : I' D = none) : Go m K σ ρ I H ρ' I' (upd H' D o) := by
  have keep : ∀ a u, H a = some u → a ≠ D := fun a u e => ne_of_none e n
  have sub : Sub I' H' → Sub I' (upd H' D o) := fun s a u e => by
    have : a ≠ D := fun z => by rw [z, ni] at e; cases e
    rw [upd_ne this]
    exact s a u e
  cases m with
  | true =>
    obtain ⟨rfl, g⟩ := g
    exact ⟨rfl, g.ii, fun a u e => by rw [upd_ne (keep a u e)]; exact g.hh a u e, sub g.sub, g.fr⟩
  | false =>
    obtain ⟨ok', st, mt⟩ := g
    refine ⟨⟨ok'.len, fun i s e => (ok'.ok i s e).grow (Same.refl _) fun q u hq e2 => ?_, ok'.nd, ok'.dj, ok'.out, sub ok'.sub⟩, ⟨st.ii, fun a u e z => by rw [upd_ne (keep a u e)]; exact st.oth a u e z, st.fr, st.mm, fun a u e => by rw [upd_ne (keep a u e)]; exact st.al a u e⟩, mt⟩
    obtain ⟨u', e'⟩ := ok.there (mt q ⟨i, by rw [ft_at e]; exact hq⟩)
    rw [upd_ne (keep q u' e')]
    exact e2
end
theorem wipe_put {K : PySem.W.Frag} {I H : Hp} {σ σ3 : L2.St} {ρ ρ3 : List Sl} {vs ws : List Nat} (p : PutOk K I H (wipe σ vs) σ3 ρ ρ3 ws) (hw : ∀ i ∈ ws, i ∈ vs) : wipe σ3 vs = wipe σ vs := by
  refine List.ext_getElem? fun i => ?_
  by_cases z : i ∈ vs
  · by_cases l : i < σ.length
    · rw [wipe_in z l, wipe_in z (by rw [p.len, wipe_length]; exact l)]
    · rw [List.getElem?_eq_none (show (wipe σ3 vs).length ≤ i by rw [wipe_length, p.len, wipe_length]; omega), List.getElem?_eq_none (show (wipe σ vs).length ≤ i by rw [wipe_length]; omega)]
  · rw [wipe_out z, p.same i fun h => z (hw i h)]
theorem PutOk.wide {K : PySem.W.Frag} {I H : Hp} {σ σ3 : L2.St} {ρ ρ3 : List Sl} {vs ws : List Nat} (p : PutOk K I H σ σ3 ρ ρ3 ws) (hw : ∀ i ∈ ws, i ∈ vs) : PutOk K I H σ σ3 ρ ρ3 vs :=
  ⟨p.env, p.mt, fun j h => p.same j fun z => h (hw j z), fun j h => p.sameR j fun z => h (hw j z), p.len⟩

/-- a clause's tests -/
def SM (m : Bool) (X : Cx) (ifs : List Expr) (ρ : List Sl) (Q : Bool → List Sl → Prop) : Prop :=
  match ifs with
  | [] => Q true ρ
  | [c] => TM m X c ρ W0 Q
  | _ => False
theorem sm_run {X : Cx} {m : Bool} {ifs : List Expr} {ρ : List Sl} {Q : Bool → List Sl → Prop} {σ : L2.St} {I H : Hp} (h : SM m X ifs ρ Q) (ok : EnvOk X.K I H σ ρ) {R : Bool → Hp → Prop} (f : ∀ b ρ' I' H', Go m X.K σ ρ I H ρ' I' H' → Q b ρ' → R b H') : wTs X ifs σ H R := by
  match ifs, h with
  | [], h => exact ⟨_, pts_nil, f true ρ I H (Go.refl ok) h⟩
  | [c], h => exact ⟨_, pts_one pt_w, (show TM m X c ρ W0 Q from h) σ I H ok XOk.zero R f⟩
end Tt

namespace Tt
open PySem PySem.Spec PyProof.Rows L2

/-! ### list comprehensions -/
abbrev bk (X : Cx) (scope : Scope) (s : Shared) (H0 : Hp) (C : Addr) (cl : List (Str × Addr)) (fp : List Addr) : Cx := X.blk s H0 scope (compEnvC scope cl C X.env) fp
def wEb (X : Cx) (scope : Scope) (e : Expr) : TE := fun σ H Q => ∀ s H0 C cl fp, wE (bk X scope s H0 C cl fp) e σ H Q
theorem pe_wb {X : Cx} {scope : Scope} {e : Expr} (s : Shared) (H0 : Hp) (C : Addr) (cl : List (Str × Addr)) (fp : List Addr) : PE (bk X scope s H0 C cl fp) e (wEb X scope e) :=
  ⟨fun pins s1 σ H Q I h => by
    obtain ⟨t, ht, q⟩ := h s H0 C cl fp
    exact ht.run pins s1 σ H Q I q⟩
def wTsb (X : Cx) (scope : Scope) (es : List Expr) : TT := fun σ H Q => ∀ s H0 C cl fp, wTs (bk X scope s H0 C cl fp) es σ H Q
theorem pts_wb {X : Cx} {scope : Scope} {es : List Expr} (s : Shared) (H0 : Hp) (C : Addr) (cl : List (Str × Addr)) (fp : List Addr) : PTs (bk X scope s H0 C cl fp) es (wTsb X scope es) :=
  ⟨fun pins s1 σ H Q I h => by
    obtain ⟨t, ht, q⟩ := h s H0 C cl fp
    exact ht.run pins s1 σ H Q I q⟩
/-- in every block -/
def InB (X : Cx) (scope : Scope) (f : Cx → Prop) : Prop := ∀ s H0 C cl fp, f (bk X scope s H0 C cl fp)
/-- one turn of a comprehension -/
def TurnD (m : Bool) (X : Cx) (elt : Expr) (ifs : List Expr) (scope : Scope) (t : Tg) (vs : List Nat) (d : D) (ys : List D) (ρ2 : List Sl) (Pn : List D → List Sl → Prop) : Prop :=
  ∃ ρ3, Tg.put t d (wipeS ρ2 vs) = some ρ3 ∧ InB X scope fun Y => SM m Y ifs ρ3 fun b ρ4 => (b = true → InB X scope fun Z => EM m Z elt ρ4 W0 fun _ y ρ5 => nd y = true ∧ ys.length < sizeLine ∧ Pn (ys ++ [y]) (backS vs ρ2 ρ5)) ∧ (b = false → Pn ys (backS vs ρ2 ρ4))
def HLc (m : Bool) (X : Cx) (elt tg iter : Expr) (ifs : List Expr) (scope : Scope) (t : Tg) (vs : List Nat) (ρ : List Sl) (W : Wx) (Q : List D → List Sl → Prop) : Prop :=
  IM m X tg iter ρ W fun its ρ1 => ∃ P : Nat → List D → List Sl → Prop, P 0 [] ρ1 ∧ (∀ i d ys ρ2, its[i]? = some d → P i ys ρ2 → TurnD m X elt ifs scope t vs d ys ρ2 (P (i + 1))) ∧ ∀ ys ρ2, P its.length ys ρ2 → Q ys ρ2

section
variable {X : Cx} {m : Bool} {ρ : List Sl} {W : Wx} {elt tg iter : Expr} {ifs : List Expr} {scope : Scope} {pos : Pos} {Q : Bool → D → List Sl → Prop}
theorem lc_data {t : Tg} {own : List (Str × Nat)} {QL : List D → List Sl → Prop} (ht : ∀ i ∈ Tg.slots t, i ∈ own.map (·.2)) (h : HLc m X elt tg iter ifs scope t (own.map (·.2)) ρ W QL) {σ : L2.St} {I H : Hp} (ok : EnvOk X.K I H σ ρ) (xk : XOk X W H ρ) {R : VK}
    (f : ∀ v ds ρ' I' H', Go m X.K σ ρ I H ρ' I' H' → RsOk X.K H I' H' v true (.list ds) → QL ds ρ' → R v H') : tLc (wI X tg iter) (Tg.g X.K t) (wTsb X scope ifs) (wEb X scope elt) (own.map (·.2)) σ H R := by
  refine h σ I H ok xk _ fun J its ρ1 I1 H1 g1 w ⟨P, p0, ps, pd⟩ D nD => ?_
  have ok1 := g1.env ok
  have nI1 : I1 D = none := ok1.sub.nn nD
  refine lc_it w.w (fun i H' => ∃ ρ2 I2 ys acc, Go m X.K σ ρ1 I1 H1 ρ2 I2 H' ∧ I2 D = none ∧ H' D = some (.lst acc) ∧ DqAll I2 acc ys ∧ P i ys ρ2)
    ⟨ρ1, I1, [], [], (Go.refl ok1).dark ok1 nD nI1, nI1, upd_same, .nil, p0⟩ (fun i H' _ ⟨ρ2, I2, ys, acc, g, _⟩ => (g.env ok1).sub.same g.ii) (fun i x H' H'' hi ⟨ρ2, I2, ys, acc, g, nd2, hD, ha, pi⟩ y => ?_) fun H' ⟨ρ2, I2, ys, acc, g, nd2, hD, ha, pn⟩ => ?_
  · obtain ⟨d, hd, y⟩ := y
    have ok2 := g.env ok1
    obtain ⟨I3, g3, r3⟩ := y I2 g.ii ok2.sub
    obtain ⟨ρ3, e3, body⟩ := ps i d ys ρ2 hd pi
    have ok3 := ok2.grow g3
    obtain ⟨σ3, p3, q3⟩ := Tg.run t (EnvOk.wiped (vs := own.map (·.2)) ok3) r3 e3
    have gg := g.grow ok1 g3
    have hD3 : H'' D = some (.lst acc) := g3.hh D _ hD
    have nd3 : I3 D = none := g3.fr D _ hD nd2
    have nm : ¬ Mt ρ3 D := fun z => by
      obtain ⟨j, hj⟩ := p3.mt D z
      obtain ⟨o, e⟩ := ok1.there (g.mt D ⟨j, (ft_wipe hj).1⟩)
      rw [nD] at e
      cases e
    have pw := p3.wide ht
    refine q3 _ ⟨wipe_put p3 ht, fun s0 H0 C cl fp => ?_⟩
    refine sm_run (body s0 H0 C cl fp) p3.env fun b ρ4 I4 H4 g4 ⟨q1, q2⟩ => ?_
    have hD4 : H4 D = some (.lst acc) := g4.step.oth D _ hD3 nm
    have nd4 : I4 D = none := g4.step.fr D _ hD3 nd3 nm
    cases b with
    | false =>
      refine iteF ⟨backS (own.map (·.2)) ρ2 ρ4, I4, ys, acc, gg.trans (Go.back ok3 pw g4), nd4, hD4, DqAll.same (g3.ii.trans g4.ii) ha, q2 rfl⟩
    | true =>
      refine iteT fun s1 H1' C1 cl1 fp1 => ?_
      refine EM.run (q1 rfl s1 H1' C1 cl1 fp1) (g4.env p3.env) XOk.zero fun v o y ρ5 I5 H5 g5 r5 ⟨ny, ly, pp⟩ => ?_
      have g45 := g4.trans g5
      have nm4 : ¬ Mt ρ4 D := fun z => nm (g4.mt D z)
      have hD5 : H5 D = some (.lst acc) := g5.step.oth D _ hD4 nm4
      have nd5 : I5 D = none := g5.step.fr D _ hD4 nd4 nm4
      have ha5 := DqAll.same ((g3.ii.trans g4.ii).trans g5.ii) ha
      refine ⟨acc, hD5, by rw [ha5.len]; exact ly, backS (own.map (·.2)) ρ2 ρ5, I5, ys ++ [y], acc ++ [v], (gg.trans (Go.back ok3 pw g45)).dark ok1 nD nd5, nd5, upd_same, DqAll.app ha5 (.cons (r5.dp ny) .nil), pp⟩
  · exact f _ ys ρ2 I2 H' (g1.trans g) ⟨D, acc, ys, rfl, rfl, g1.nn D nD, nd2, hD, ha⟩ (pd ys ρ2 pn)
theorem em_lc (t : Tg) (own : List (Str × Nat)) (hc : X.calm = true) (hN : X.N.Nodup) (ok : BlkOk X.N X.env.scope scope own) (hg : InB X scope fun Y => PG Y tg (Tg.g X.K t)) (ht : ∀ i ∈ Tg.slots t, i ∈ own.map (·.2))
    (h : HLc m X elt tg iter ifs scope t (own.map (·.2)) ρ W fun ys ρ' => Q true (.list ys) ρ') (hs : ∀ x, foldedSetIterable iter X.env x = pure x := by intro _; rfl) : EM m X (.ListComp elt [⟨tg, iter, ifs, 0⟩] scope pos) ρ W Q := fun σ I H okk xk R f =>
  ⟨_, pe_lc hc hN pi_w ok (fun s H C cl fp => hg s H C cl fp) pts_wb pe_wb hs, lc_data ht h okk xk fun v ds ρ' I' H' g r q => f v true _ ρ' I' H' g r q⟩
/-- y = [..] -/
theorem s1_setLc (i : Nat) {y : Str} {py spos : Pos} {E : DE} (t : Tg) (own : List (Str × Nat)) (hc : X.calm = true) (hN : X.N.Nodup) (ok : BlkOk X.N X.env.scope scope own) (hg : InB X scope fun Y => PG Y tg (Tg.g X.K t)) (ht : ∀ i ∈ Tg.slots t, i ∈ own.map (·.2))
    (h : HLc false X elt tg iter ifs scope t (own.map (·.2)) ρ W fun ys ρ' => ∀ p, E.nx (ρ'.set i (.mo p (.lst ys)))) (hsw : swapsWith (.ListComp elt [⟨tg, iter, ifs, 0⟩] scope pos) (some (.Name y py)) spos.line X.env = pure true)
    (hy : X.N[i]? = some y := by rfl) (hyl : X.env.scope.names.lookup y = some .local := by rfl) (hs : ∀ x, foldedSetIterable iter X.env x = pure x := by intro _; rfl) : S1 X (.Assign [.Name y py] (.ListComp elt [⟨tg, iter, ifs, 0⟩] scope pos) spos) ρ W E := fun σ I H okk xk T k =>
  ⟨_, ps_setLc hc hN hy hyl hsw pi_w ok (fun s H C cl fp => hg s H C cl fp) pts_wb pe_wb hs, lc_data ht h okk xk fun v ds ρ' I' H' g r q => by
    obtain ⟨p, xs, ds', rfl, e, n, ni, hh, tt⟩ := r
    cases e
    obtain ⟨o, st⟩ := NewOk.put (i := i) (s := .mo p (.lst ds)) ⟨⟨rfl, _, hh, xs, rfl, tt⟩, List.pairwise_singleton _ _, fun a z => by rw [List.mem_singleton.mp z]; exact ⟨n, ni⟩⟩ okk g
    exact k.nx _ _ I' H' o st (q p)⟩
/-- .. told as data -/
theorem s1_setLcD (i : Nat) {y : Str} {py spos : Pos} {E : DE} (t : Tg) (own : List (Str × Nat)) (hc : X.calm = true) (hN : X.N.Nodup) (ok : BlkOk X.N X.env.scope scope own) (hg : InB X scope fun Y => PG Y tg (Tg.g X.K t)) (ht : ∀ i ∈ Tg.slots t, i ∈ own.map (·.2))
    (h : HLc false X elt tg iter ifs scope t (own.map (·.2)) ρ W fun ys ρ' => E.nx (ρ'.set i (.va (.list ys)))) (hsw : swapsWith (.ListComp elt [⟨tg, iter, ifs, 0⟩] scope pos) (some (.Name y py)) spos.line X.env = pure true)
    (hy : X.N[i]? = some y := by rfl) (hyl : X.env.scope.names.lookup y = some .local := by rfl) (hs : ∀ x, foldedSetIterable iter X.env x = pure x := by intro _; rfl) : S1 X (.Assign [.Name y py] (.ListComp elt [⟨tg, iter, ifs, 0⟩] scope pos) spos) ρ W E := fun σ I H okk xk T k =>
  ⟨_, ps_setLc hc hN hy hyl hsw pi_w ok (fun s H C cl fp => hg s H C cl fp) pts_wb pe_wb hs, lc_data ht h okk xk fun v ds ρ' I' H' g r q => by
    obtain ⟨J, g', r'⟩ := r.data g okk
    obtain ⟨o, st⟩ := NewOk.put (i := i) (s := .va (.list ds)) (.of_data r') okk g'
    exact k.nx _ _ J H' o st q⟩

/-! pure elements: a map, behind a filter -/
theorem em_eq {e : Expr} (h : EM true X e ρ W fun o d ρ' => ρ' = ρ → Q o d ρ') : EM true X e ρ W Q := fun σ I H ok xk R f => h σ I H ok xk R fun v o d ρ' I' H' g r q => f v o d ρ' I' H' g r (q g.1)
theorem sm_eq {QT : Bool → List Sl → Prop} (h : SM true X ifs ρ fun b ρ' => ρ' = ρ → QT b ρ') : SM true X ifs ρ QT := by
  match ifs, h with
  | [], h => exact h rfl
  | [c], h =>
    intro σ I H ok xk R f
    exact (show TM true X c ρ W0 _ from h) σ I H ok xk R fun b ρ' I' H' g q => f b ρ' I' H' g (q g.1)
mutual
theorem Tg.putR : ∀ (t : Tg) {d : D} {ρ ρ' : List Sl}, Tg.put t d ρ = some ρ' → ρ'.length = ρ.length ∧ ∀ j, j ∉ Tg.slots t → ρ'[j]? = ρ[j]?
  | .nm i, d, ρ, ρ', e => by
    simp only [Tg.put] at e
    cases e
    refine ⟨List.length_set, fun j h => List.getElem?_set_ne fun z => h ?_⟩
    subst z
    unfold Tg.slots
    exact List.mem_singleton.mpr rfl
  | .tp ts, .tuple ds, ρ, ρ', e => by
    simp only [Tg.put] at e
    unfold Tg.slots
    exact Tg.putRs ts e
  | .tp _, .none, _, _, e => by simp [Tg.put] at e
  | .tp _, .bool _, _, _, e => by simp [Tg.put] at e
  | .tp _, .int _, _, _, e => by simp [Tg.put] at e
  | .tp _, .str _, _, _, e => by simp [Tg.put] at e
  | .tp _, .list _, _, _, e => by simp [Tg.put] at e
  | .tp _, .dict _, _, _, e => by simp [Tg.put] at e
theorem Tg.putRs : ∀ (ts : List Tg) {ds : List D} {ρ ρ' : List Sl}, Tg.puts ts ds ρ = some ρ' → ρ'.length = ρ.length ∧ ∀ j, j ∉ Tg.slotss ts → ρ'[j]? = ρ[j]?
  | [], [], ρ, ρ', e => by
    simp only [Tg.puts] at e
    cases e
    exact ⟨rfl, fun _ _ => rfl⟩
  | [], _ :: _, _, _, e => by simp [Tg.puts] at e
  | _ :: _, [], _, _, e => by simp [Tg.puts] at e
  | t :: ts, d :: ds, ρ, ρ', e => by
    simp only [Tg.puts] at e
    split at e
    · rename_i ρ1 e1
      obtain ⟨l1, h1⟩ := Tg.putR t e1
      obtain ⟨l2, h2⟩ := Tg.putRs ts e
      refine ⟨l2.trans l1, fun j h => ?_⟩
      unfold Tg.slotss at h
      exact (h2 j fun z => h (List.mem_append_right _ z)).trans (h1 j fun z => h (List.mem_append_left _ z))
    · cases e
end
theorem backS_put {t : Tg} {d : D} {ρ3 : List Sl} {vs : List Nat} (e : Tg.put t d (wipeS ρ vs) = some ρ3) (ht : ∀ i ∈ Tg.slots t, i ∈ vs) : backS vs ρ ρ3 = ρ := by
  obtain ⟨l, h⟩ := Tg.putR t e
  rw [wipeS_len] at l
  refine List.ext_getElem? fun i => ?_
  by_cases z : i ∈ vs
  · exact backS_in z
  · rw [backS_out z l, h i fun q => z (ht i q), wipeS_out z]
/-- [elt for tg in iter if ..] with pure parts: the items are xs told by enc, p the test, g the element -/
def HFm (X : Cx) (elt tg iter : Expr) (ifs : List Expr) (scope : Scope) (t : Tg) (vs : List Nat) (ρ : List Sl) (W : Wx) (Q : List D → Prop) : Prop :=
  IM true X tg iter ρ W fun its _ => its.length ≤ sizeLine ∧ ∃ (α : Type) (xs : List α) (enc : α → D) (p : α → Bool) (g : α → D), its = xs.map enc ∧ (∀ a ∈ xs, ∃ ρ3, Tg.put t (enc a) (wipeS ρ vs) = some ρ3 ∧ InB X scope fun Y => SM true Y ifs ρ3 (fun b _ => b = p a) ∧ (p a = true → EM true Y elt ρ3 W0 fun _ y _ => nd y = true ∧ y = g a)) ∧ Q ((xs.filter p).map g)
theorem hlc_of {t : Tg} {vs : List Nat} {QL : List D → List Sl → Prop} (ht : ∀ i ∈ Tg.slots t, i ∈ vs) (h : HFm X elt tg iter ifs scope t vs ρ W fun ys => QL ys ρ) : HLc true X elt tg iter ifs scope t vs ρ W QL := by
  intro σ I H ok xk R f
  refine h σ I H ok xk R fun J its ρ1 I1 H1 g1 w ⟨hz, α, xs, enc, p, g, es, turn, q⟩ => f J its ρ1 I1 H1 g1 w ?_
  obtain rfl : ρ1 = ρ := g1.1
  subst es
  rw [List.length_map] at hz
  refine ⟨fun i ys ρ2 => ρ2 = ρ1 ∧ i ≤ xs.length ∧ ys = ((xs.take i).filter p).map g, ⟨rfl, Nat.zero_le _, rfl⟩, fun i d ys ρ2 hd ⟨e1, hi, e2⟩ => ?_, fun ys ρ2 ⟨e1, _, e2⟩ => ?_⟩
  · subst e1 e2
    rw [List.getElem?_map] at hd
    obtain ⟨x, hx, ed⟩ := Option.map_eq_some_iff.mp hd
    subst ed
    have hl : i < xs.length := (List.getElem?_eq_some_iff.mp hx).1
    obtain ⟨ρ3, e3, body⟩ := turn x (List.mem_of_getElem? hx)
    have tk : xs.take (i + 1) = xs.take i ++ [x] := by rw [List.take_add_one, hx]; rfl
    have ly : (((xs.take i).filter p).map g).length < sizeLine := by
      rw [List.length_map]
      refine Nat.lt_of_le_of_lt (List.length_filter_le _ _) ?_
      rw [List.length_take]
      omega
    refine ⟨ρ3, e3, fun s H0 C cl fp => sm_eq ?_⟩
    have b1 := (body s H0 C cl fp).1
    have go : ∀ b ρ4, b = p x → ρ4 = ρ3 → (b = true → InB X scope fun Z => EM true Z elt ρ4 W0 fun _ y ρ5 => nd y = true ∧ (((xs.take i).filter p).map g).length < sizeLine ∧ (backS vs ρ2 ρ5 = ρ2 ∧ i + 1 ≤ xs.length ∧ ((xs.take i).filter p).map g ++ [y] = ((xs.take (i + 1)).filter p).map g)) ∧
        (b = false → (backS vs ρ2 ρ4 = ρ2 ∧ i + 1 ≤ xs.length ∧ ((xs.take i).filter p).map g = ((xs.take (i + 1)).filter p).map g)) := by
      rintro b ρ4 rfl rfl
      refine ⟨fun hp s1 H1 C1 cl1 fp1 => em_eq (em_mono ((body s1 H1 C1 cl1 fp1).2 hp) fun o y ρ5 ⟨ny, ey⟩ e5 => ⟨ny, ly, by rw [e5]; exact backS_put e3 ht, hl, ?_⟩), fun hp => ⟨backS_put e3 ht, hl, ?_⟩⟩
      · rw [tk, List.filter_append, List.map_append, List.filter_cons_of_pos hp, ey]
        rfl
      · rw [tk, List.filter_append, List.map_append, List.filter_cons_of_neg (by rw [hp]; exact Bool.false_ne_true)]
        simp
    match ifs, b1 with
    | [], b1 => exact fun _ => go true ρ3 b1 rfl
    | [c], b1 => exact tm_mono (show TM true _ c ρ3 W0 _ from b1) fun b ρ4 eb e4 => go b ρ4 eb e4
  · subst e1 e2
    rw [List.length_map, List.take_length]
    exact q
/-- .. without a test -/
theorem HFm.map {α : Type} {t : Tg} {vs : List Nat} {Q : List D → Prop} (enc g : α → D)
    (h : IM true X tg iter ρ W fun its _ => ∃ xs : List α, its = xs.map enc ∧ xs.length ≤ sizeLine ∧ (∀ a ∈ xs, ∃ ρ3, Tg.put t (enc a) (wipeS ρ vs) = some ρ3 ∧ InB X scope fun Y => EM true Y elt ρ3 W0 fun _ y _ => nd y = true ∧ y = g a) ∧ Q (xs.map g)) : HFm X elt tg iter [] scope t vs ρ W Q := by
  intro σ I H ok xk R f
  refine h σ I H ok xk R fun J its ρ1 I1 H1 g1 w ⟨xs, e, hz, turn, q⟩ => f J its ρ1 I1 H1 g1 w ⟨by rw [e, List.length_map]; exact hz, α, xs, enc, fun _ => true, g, e, fun a ha => ?_, ?_⟩
  · obtain ⟨ρ3, e3, b⟩ := turn a ha
    exact ⟨ρ3, e3, fun s H0 C cl fp => ⟨rfl, fun _ => b s H0 C cl fp⟩⟩
  · have ef : xs.filter (fun _ => true) = xs := List.filter_eq_self.mpr fun _ _ => rfl
    rw [ef]
    exact q
/-- .. with a test -/
theorem HFm.filter {α : Type} {t : Tg} {vs : List Nat} {Q : List D → Prop} {c : Expr} (enc : α → D) (p : α → Bool) (g : α → D)
    (h : IM true X tg iter ρ W fun its _ => ∃ xs : List α, its = xs.map enc ∧ xs.length ≤ sizeLine ∧ (∀ a ∈ xs, ∃ ρ3, Tg.put t (enc a) (wipeS ρ vs) = some ρ3 ∧ InB X scope fun Y => TM true Y c ρ3 W0 (fun b _ => b = p a) ∧ (p a = true → EM true Y elt ρ3 W0 fun _ y _ => nd y = true ∧ y = g a)) ∧ Q ((xs.filter p).map g)) : HFm X elt tg iter [c] scope t vs ρ W Q := by
  intro σ I H ok xk R f
  exact h σ I H ok xk R fun J its ρ1 I1 H1 g1 w ⟨xs, e, hz, turn, q⟩ => f J its ρ1 I1 H1 g1 w ⟨by rw [e, List.length_map]; exact hz, α, xs, enc, p, g, e, turn, q⟩
theorem im_pure {QI : List D → List Sl → Prop} (h : IM true X tg iter ρ W fun d ρ' => ρ' = ρ → QI d ρ) : IM m X tg iter ρ W QI := fun σ I H ok xk R f => h σ I H ok xk R fun J its ρ' I' H' g w q => by
  obtain rfl : ρ' = ρ := g.1
  exact f J its _ I' H' (g.any ok) w (q rfl)
theorem em_fm (t : Tg) (own : List (Str × Nat)) (hc : X.calm = true) (hN : X.N.Nodup) (ok : BlkOk X.N X.env.scope scope own) (hg : InB X scope fun Y => PG Y tg (Tg.g X.K t)) (ht : ∀ i ∈ Tg.slots t, i ∈ own.map (·.2))
    (h : HFm X elt tg iter ifs scope t (own.map (·.2)) ρ W fun ys => Q true (.list ys) ρ) (hs : ∀ x, foldedSetIterable iter X.env x = pure x := by intro _; rfl) : EM m X (.ListComp elt [⟨tg, iter, ifs, 0⟩] scope pos) ρ W Q :=
  em_pure (em_lc t own hc hN ok hg ht (hlc_of (QL := fun ys ρ' => ρ' = ρ → Q true (.list ys) ρ) ht (by
    intro σ I H ok xk R f
    exact h σ I H ok xk R fun J its ρ1 I1 H1 g1 w ⟨hz, α, xs, enc, p, g, e, turn, q⟩ => f J its ρ1 I1 H1 g1 w ⟨hz, α, xs, enc, p, g, e, turn, fun _ => q⟩)) hs)
theorem s1_setFm (i : Nat) {y : Str} {py spos : Pos} {E : DE} (t : Tg) (own : List (Str × Nat)) (hc : X.calm = true) (hN : X.N.Nodup) (ok : BlkOk X.N X.env.scope scope own) (hg : InB X scope fun Y => PG Y tg (Tg.g X.K t)) (ht : ∀ i ∈ Tg.slots t, i ∈ own.map (·.2))
    (h : HFm X elt tg iter ifs scope t (own.map (·.2)) ρ W fun ys => ∀ p, E.nx (ρ.set i (.mo p (.lst ys)))) (hsw : swapsWith (.ListComp elt [⟨tg, iter, ifs, 0⟩] scope pos) (some (.Name y py)) spos.line X.env = pure true := by rfl)
    (hy : X.N[i]? = some y := by rfl) (hyl : X.env.scope.names.lookup y = some .local := by rfl) (hs : ∀ x, foldedSetIterable iter X.env x = pure x := by intro _; rfl) : S1 X (.Assign [.Name y py] (.ListComp elt [⟨tg, iter, ifs, 0⟩] scope pos) spos) ρ W E := fun σ I H okk xk T k =>
  ⟨_, ps_setLc hc hN hy hyl hsw pi_w ok (fun s H C cl fp => hg s H C cl fp) pts_wb pe_wb hs, lc_data ht (hlc_of (QL := fun ys ρ' => ρ' = ρ → ∀ p, E.nx (ρ.set i (.mo p (.lst ys)))) ht (by
    intro σ I H ok xk R f
    exact h σ I H ok xk R fun J its ρ1 I1 H1 g1 w ⟨hz, α, xs, enc, p, g, e, turn, q⟩ => f J its ρ1 I1 H1 g1 w ⟨hz, α, xs, enc, p, g, e, turn, fun _ => q⟩)) okk xk fun v ds ρ' I' H' g r q => by
    obtain ⟨p, xs, ds', rfl, e, n, ni, hh, tt⟩ := r
    cases e
    have e0 : ρ' = ρ := g.1
    subst e0
    obtain ⟨o, st⟩ := NewOk.put (i := i) (s := .mo p (.lst ds)) ⟨⟨rfl, _, hh, xs, rfl, tt⟩, List.pairwise_singleton _ _, fun a z => by rw [List.mem_singleton.mp z]; exact ⟨n, ni⟩⟩ okk g
    exact k.nx _ _ I' H' o st (q rfl p)⟩
end
end Tt

namespace Tt
open PySem PySem.Spec PyProof.Rows L2

/-! ### what a def is worth, told of data -/
abbrev DSp := List Sl → (Bool → D → List Sl → Prop) → Wx → Prop
def toSp (K : PySem.W.Frag) (ds : DSp) : Sp := fun vs H Q E => ∃ ss I P W, EnvOk K I H (vs.map some) ss ∧ ds ss P W ∧
  (∀ v o d ss' I' H', EnvOk K I' H' (vs.map some) ss' → Step I H (Mt ss) I' H' (Mt ss') → (∀ a, Mt ss' a → Mt ss a) → RsOk K H I' H' v o d → P o d ss' → Q v H') ∧
  ((∀ c, ¬ W c) ∨ ((∀ a, ¬ Mt ss a) ∧ ∀ cls H', Same H H' → W cls → E cls none H'))
/-- the def x of the module keeps sp -/
def Cal (P : Program) (w : World) (K : PySem.W.Frag) (mg : Str → Option Value) (base : Heap) (x : Str) (k : Nat) (ps : List Str) (sp : DSp) : Prop :=
  ∃ f fd, FnOk P w K mg base (L2N.CX P w) k f fd ps (toSp K sp) ∧ mg x = some (.ref f) ∧ PySem.W.keepIn K (.ref f) = true ∧ Binds K fd ps []
theorem Cal.mono {P : Program} {w : World} {K : PySem.W.Frag} {mg : Str → Option Value} {base : Heap} {x : Str} {j k : Nat} {ps : List Str} {sp : DSp} (c : Cal P w K mg base x j ps sp) (h : j ≤ k) : Cal P w K mg base x k ps sp := by
  obtain ⟨f, fd, F, r⟩ := c
  exact ⟨f, fd, F.mono h, r⟩
theorem Cal.imp {P : Program} {w : World} {K : PySem.W.Frag} {mg : Str → Option Value} {base : Heap} {x : Str} {k : Nat} {ps : List Str} {sp sp' : DSp} (c : Cal P w K mg base x k ps sp) (h : ∀ ss Q W, sp' ss Q W → sp ss Q W) : Cal P w K mg base x k ps sp' := by
  obtain ⟨f, fd, F, r⟩ := c
  exact ⟨f, fd, F.imp fun vs H Q E ⟨ss, I, P', W, a, b, c, d⟩ => ⟨ss, I, P', W, a, h _ _ _ b, c, d⟩, r⟩

/-- no mutable arguments -/
theorem mt_va {ds : List D} {a : Addr} : ¬ Mt (ds.map Sl.va) a := fun ⟨i, h⟩ => by
  unfold ft at h
  rw [List.getElem?_map] at h
  cases e : ds[i]? with
  | none => rw [e] at h; cases h
  | some d => rw [e] at h; cases h
theorem envOk_va {K : PySem.W.Frag} {I H : Hp} (s : Sub I H) : ∀ {vs : List V} {ds : List D}, Paired (Rv K I) vs ds → EnvOk K I H (vs.map some) (ds.map Sl.va) := fun {vs ds} h => by
  refine ⟨by rw [List.length_map, List.length_map, paired_len h], fun i s e => ?_, fun i => ?_, fun i j a h1 _ => absurd ⟨i, h1⟩ mt_va, fun i a h1 => absurd ⟨i, h1⟩ mt_va, s⟩
  · induction h generalizing i with
    | nil => simp at e
    | cons h t ih =>
      cases i with
      | zero =>
        simp at e
        subst e
        exact h
      | succ i => exact ih i (by simpa using e)
  · have : ft (ds.map Sl.va) i = [] := by
      cases q : ft (ds.map Sl.va) i with
      | nil => rfl
      | cons a r => exact absurd ⟨i, by rw [q]; exact List.mem_cons_self⟩ (mt_va (ds := ds) (a := a))
    rw [this]
    exact List.nodup_nil
section
variable {X : Cx} {m : Bool} {ρ ρ1 : List Sl} {W : Wx} {a b c e : Expr} {es : List Expr} {pos p : Pos} {σ : L2.St} {I H I1 H1 : Hp} {E : DE} {Q : Bool → D → List Sl → Prop} {k : Nat} {ps : List Str} {sp : DSp} {x : Str}
theorem em_call (F : Cal X.prog X.w X.K X.mg X.base x k ps sp) (hr : Room k X.A) (h : AM m X (e :: es) ρ W fun ds ρ1 => ∃ W', (∀ c, W' c → W c) ∧ sp (ds.map Sl.va) (fun o d _ => Q o d ρ1) W') (hg : Gl X x := by rfl) (hdb : (x == ("__debug__" : Str)) = false := by decide)
    (he : starEach (e :: es) X.env = (false, eval e X.env) :: starEach es X.env := by rfl) (hpl : (backTo pos (starEach es X.env)).any (·.1) = false := by rfl) : EM m X (.Call (.Name x p) (e :: es) [] pos) ρ W Q := fun σ I H ok xk R f => by
  obtain ⟨fa, fd, F, hm, hk, hb⟩ := F
  obtain ⟨H0, thr, s0, k0⟩ := xk.ex
  refine ⟨_, pe_call F hr hg hm hk hb .nil (E := fun cls d H' => W cls ∧ d = none ∧ Same H0 H') (L2N.passes_call thr fun cls d _ H' h => h) pa_w hdb he hpl, ?_⟩
  refine h σ I H ok xk _ fun vs ds ρ1 I1 H1 g1 r1 ⟨W', hW, q1⟩ => ?_
  have ok1 := g1.env ok
  rw [List.append_nil]
  obtain ⟨H0', thr', s0', k0'⟩ := (xk.step g1.step).ex
  have s01 : Same H0 H1 := fun a o e => g1.step.oth a o (s0 a o e) fun z => by rw [k0 a z] at e; cases e
  refine ⟨ds.map Sl.va, I1, _, W', envOk_va ok1.sub r1, q1, fun v o d ss' I' H' ok' st mt r q => ?_, .inr ⟨fun _ => mt_va, fun cls H' s wc => ⟨hW cls wc, rfl, s01.trans s⟩⟩⟩
  have gr : Grow I1 H1 I' H' := st.grow (fun _ => mt_va) ok'.sub
  exact f v o d ρ1 I' H' (g1.grow ok gr) (r.back g1.nn) q
theorem em_call0 (F : Cal X.prog X.w X.K X.mg X.base x k ps sp) (hr : Room k X.A) (h : ∃ W', (∀ c, W' c → W c) ∧ sp [] (fun o d _ => Q o d ρ) W') (hg : Gl X x := by rfl) (hdb : (x == ("__debug__" : Str)) = false := by decide) : EM m X (.Call (.Name x p) [] [] pos) ρ W Q := fun σ I H ok xk R f => by
  obtain ⟨fa, fd, F, hm, hk, hb⟩ := F
  obtain ⟨H0, thr, s0, k0⟩ := xk.ex
  refine ⟨_, pe_call0 F hr hg hm hk hb .nil (E := fun cls d H' => W cls ∧ d = none ∧ Same H0 H') (L2N.passes_call thr fun cls d _ H' h => h) hdb, ?_⟩
  obtain ⟨W', hW, q1⟩ := h
  refine ⟨[], I, _, W', envOk_va (ds := []) ok.sub .nil, q1, fun v o d ss' I' H' ok' st mt r q => ?_, .inr ⟨fun _ => mt_va (ds := []), fun cls H' s wc => ⟨hW cls wc, rfl, s0.trans s⟩⟩⟩
  have gr : Grow I H I' H' := st.grow (fun _ => mt_va (ds := [])) ok'.sub
  exact f v o d ρ I' H' (Go.of ok gr) r q

/-! calls that change what is handed in -/
abbrev Arg := Sum D Nat
def ArgR (K : PySem.W.Frag) (I : Hp) (σ : L2.St) (v : V) : Arg → Prop
  | .inl d => Rv K I v d
  | .inr i => σ[i]? = some (some v)
def argSl (ρ : List Sl) : Arg → Sl
  | .inl d => .va d
  | .inr i => ρ.getD i .no
def slotsOf : List Arg → List Nat
  | [] => []
  | .inl _ :: r => slotsOf r
  | .inr i :: r => i :: slotsOf r
def lookS : List Arg → List Sl → Nat → Option Sl
  | .inr i :: as, s :: ss, k => if i = k then some s else lookS as ss k
  | .inl _ :: as, _ :: ss, k => lookS as ss k
  | _, _, _ => none
def putB (as : List Arg) (ss : List Sl) (ρ : List Sl) : List Sl := (List.range ρ.length).map fun k => match lookS as ss k with
  | some s => s
  | none => ρ.getD k .no
def ZM (X : Cx) (es : List Expr) (ρ : List Sl) (W : Wx) (Q : List Arg → List Sl → Prop) : Prop :=
  ∀ σ I H, EnvOk X.K I H σ ρ → XOk X W H ρ → ∀ R : List V → Hp → Prop, (∀ vs as ρ' I' H', Go false X.K σ ρ I H ρ' I' H' → Paired (ArgR X.K I' σ) vs as → Q as ρ' → R vs H') → wA X es σ H R
theorem argR_same {K : PySem.W.Frag} {I J : Hp} {σ : L2.St} (e : Same I J) {v : V} : ∀ {a : Arg}, ArgR K I σ v a → ArgR K J σ v a
  | .inl _, h => Rv.same e h
  | .inr _, h => h
theorem zm_nil {QZ : List Arg → List Sl → Prop} (q : QZ [] ρ) : ZM X [] ρ W QZ := fun σ I H ok xk R f => ⟨_, pa_nil, f [] [] ρ I H (Go.refl ok) .nil q⟩
theorem zm_d {QZ : List Arg → List Sl → Prop} (h : EM false X e ρ W fun _ d ρ1 => ZM X es ρ1 W fun as ρ2 => QZ (.inl d :: as) ρ2) (hs : starEach (e :: es) X.env = (false, eval e X.env) :: starEach es X.env := by rfl) : ZM X (e :: es) ρ W QZ := fun σ I H ok xk R f =>
  ⟨_, pa_cons pe_w pa_w hs, h.run ok xk fun v _ x ρ1 I1 H1 g1 r1 q1 => q1 σ I1 H1 (g1.env ok) (xk.step g1.step) _ fun vs as ρ2 I2 H2 g2 r2 q2 => f (v :: vs) (.inl x :: as) ρ2 I2 H2 (g1.trans g2) (.cons (r1.same g2.ii) r2) q2⟩
theorem zm_s (i : Nat) {y : Str} {py : Pos} {q : Addr} {mo : MO} {QZ : List Arg → List Sl → Prop} (h0 : ρ[i]? = some (.mo q mo)) (h : ZM X es ρ W fun as ρ2 => QZ (.inr i :: as) ρ2) (hN : X.N[i]? = some y := by rfl) (hv : Vis X.env.scope y := by first | exact Or.inl rfl | exact Or.inr (Or.inl rfl) | exact Or.inr (Or.inr rfl))
    (hd : (y == ("__debug__" : Str)) = false := by decide) (hcd : (y == ("__classdict__" : Str)) = false := by decide) (hs : starEach (.Name y py :: es) X.env = (false, eval (.Name y py) X.env) :: starEach es X.env := by rfl) : ZM X (.Name y py :: es) ρ W QZ := fun σ I H ok xk R f => by
  obtain ⟨v, e, r⟩ := ok.at h0 (fun z => nomatch z)
  exact ⟨_, pa_cons (pe_var hN hv hd hcd) pa_w hs, v, e, h σ I H ok xk _ fun vs as ρ2 I2 H2 g2 r2 q2 => f (v :: vs) (.inr i :: as) ρ2 I2 H2 g2 (.cons e r2) q2⟩
theorem lookS_some : ∀ {as : List Arg} {ss : List Sl} {k : Nat} {s : Sl}, lookS as ss k = some s → ∃ j : Nat, as[j]? = some (Sum.inr k) ∧ ss[j]? = some s
  | [], _, _, _, h => by simp [lookS] at h
  | .inl _ :: _, [], _, _, h => by simp [lookS] at h
  | .inr _ :: _, [], _, _, h => by simp [lookS] at h
  | .inl _ :: as, _ :: ss, k, s, h => by
    simp only [lookS] at h
    obtain ⟨j, h1, h2⟩ := lookS_some h
    exact ⟨j + 1, by simpa using h1, by simpa using h2⟩
  | .inr i :: as, t :: ss, k, s, h => by
    simp only [lookS] at h
    split at h
    · rename_i e
      subst e
      exact ⟨0, rfl, h⟩
    · obtain ⟨j, h1, h2⟩ := lookS_some h
      exact ⟨j + 1, by simpa using h1, by simpa using h2⟩
theorem lookS_none : ∀ {as : List Arg} {ss : List Sl} {k : Nat}, as.length = ss.length → lookS as ss k = none → k ∉ slotsOf as
  | [], _, _, _, _, m => by cases m
  | .inl _ :: _, [], _, l, _, _ => by simp at l
  | .inr _ :: _, [], _, l, _, _ => by simp at l
  | .inl _ :: as, _ :: ss, k, l, h, m => by
    simp only [lookS] at h
    exact lookS_none (by simpa using l) h m
  | .inr i :: as, t :: ss, k, l, h, m => by
    simp only [lookS] at h
    split at h
    · cases h
    · rename_i e
      rcases List.mem_cons.mp m with z | z
      · exact e z.symm
      · exact lookS_none (by simpa using l) h z
theorem slotsOf_mem : ∀ {as : List Arg} {j i : Nat}, as[j]? = some (.inr i) → i ∈ slotsOf as
  | [], _, _, h => by simp at h
  | .inl _ :: _, 0, _, h => by simp at h
  | .inr _ :: _, 0, _, h => by
    simp at h
    subst h
    exact List.mem_cons_self
  | .inl _ :: as, j + 1, i, h => slotsOf_mem (as := as) (j := j) (by simpa using h)
  | .inr _ :: as, j + 1, i, h => List.mem_cons_of_mem _ (slotsOf_mem (as := as) (j := j) (by simpa using h))
theorem slotsOf_inj : ∀ {as : List Arg} {j1 j2 i : Nat}, (slotsOf as).Nodup → as[j1]? = some (.inr i) → as[j2]? = some (.inr i) → j1 = j2
  | [], _, _, _, _, h, _ => by simp at h
  | .inl _ :: _, 0, _, _, _, h, _ => by simp at h
  | .inl _ :: _, _, 0, _, _, _, h => by simp at h
  | .inl _ :: as, j1 + 1, j2 + 1, i, nd, h1, h2 => by rw [slotsOf_inj (as := as) (j1 := j1) (j2 := j2) nd (by simpa using h1) (by simpa using h2)]
  | .inr _ :: _, 0, 0, _, _, _, _ => rfl
  | .inr _ :: as, 0, j2 + 1, i, nd, h1, h2 => by
    simp at h1
    subst h1
    exact absurd (slotsOf_mem (as := as) (j := j2) (by simpa using h2)) (List.nodup_cons.mp nd).1
  | .inr _ :: as, j1 + 1, 0, i, nd, h1, h2 => by
    simp at h2
    subst h2
    exact absurd (slotsOf_mem (as := as) (j := j1) (by simpa using h1)) (List.nodup_cons.mp nd).1
  | .inr _ :: as, j1 + 1, j2 + 1, i, nd, h1, h2 => by rw [slotsOf_inj (as := as) (j1 := j1) (j2 := j2) (List.nodup_cons.mp nd).2 (by simpa using h1) (by simpa using h2)]
theorem paired_at {α β : Type} {P : α → β → Prop} : ∀ {as : List α} {bs : List β} {i : Nat} {b : β}, Paired P as bs → bs[i]? = some b → ∃ a, as[i]? = some a ∧ P a b
  | _, _, _, _, .nil, e => by simp at e
  | _, _, 0, _, .cons h _, e => by simp at e; subst e; exact ⟨_, rfl, h⟩
  | _, _, i + 1, b, .cons _ t, e => by
    obtain ⟨a, h1, h2⟩ := paired_at (i := i) (b := b) t (by simpa using e)
    exact ⟨a, by simpa using h1, h2⟩
theorem paired_at' {α β : Type} {P : α → β → Prop} : ∀ {as : List α} {bs : List β} {i : Nat} {a : α}, Paired P as bs → as[i]? = some a → ∃ b, bs[i]? = some b ∧ P a b
  | _, _, _, _, .nil, e => by simp at e
  | _, _, 0, _, .cons h _, e => by simp at e; subst e; exact ⟨_, rfl, h⟩
  | _, _, i + 1, a, .cons _ t, e => by
    obtain ⟨b, h1, h2⟩ := paired_at' (i := i) (a := a) t (by simpa using e)
    exact ⟨b, by simpa using h1, h2⟩
/-- the slots handed in are told apart, each of an object -/
def GoodArgs (ρ : List Sl) (as : List Arg) : Prop := (slotsOf as).Nodup ∧ ∀ i ∈ slotsOf as, ∃ q mo, ρ[i]? = some (.mo q mo)
theorem args_ft {as : List Arg} {j : Nat} {a : Addr} (h : a ∈ ft (as.map (argSl ρ)) j) : ∃ i, as[j]? = some (.inr i) ∧ a ∈ ft ρ i := by
  unfold ft at h
  rw [List.getElem?_map] at h
  cases e : as[j]? with
  | none => rw [e] at h; cases h
  | some x =>
    rw [e] at h
    cases x with
    | inl d => cases h
    | inr i =>
      refine ⟨i, rfl, ?_⟩
      have h : a ∈ foot (ρ.getD i .no) := h
      unfold ft
      rw [List.getD_eq_getElem?_getD] at h
      cases e2 : ρ[i]? with
      | none => rw [e2] at h; cases h
      | some s => rw [e2] at h; exact h
theorem args_env {K : PySem.W.Frag} {vs : List V} {as : List Arg} (ok : EnvOk K I H σ ρ) (r : Paired (ArgR K I σ) vs as) (g : GoodArgs ρ as) : EnvOk K I H (vs.map some) (as.map (argSl ρ)) := by
  refine ⟨by rw [List.length_map, List.length_map, paired_len r], fun j s e => ?_, fun j => ?_, fun j1 j2 a h1 h2 => ?_, fun j a h => ?_, ok.sub⟩
  · rw [List.getElem?_map] at e
    cases e1 : as[j]? with
    | none => rw [e1] at e; cases e
    | some x =>
      rw [e1] at e
      cases e
      obtain ⟨v, hv, rv⟩ := paired_at r e1
      rw [List.getElem?_map, hv]
      cases x with
      | inl d => exact rv
      | inr i =>
        obtain ⟨q, mo, e2⟩ := g.2 i (slotsOf_mem e1)
        have k := ok.ok i _ e2
        rw [show σ[i]? = some (some v) from rv] at k
        show SlOk K I H (some v) (ρ.getD i .no)
        rw [getD_some e2]
        exact k
  · cases q : ft (as.map (argSl ρ)) j with
    | nil => exact List.nodup_nil
    | cons a r =>
      obtain ⟨i, e1, h1⟩ := args_ft (ρ := ρ) (as := as) (j := j) (a := a) (by rw [q]; exact List.mem_cons_self)
      obtain ⟨q2, mo, e2⟩ := g.2 i (slotsOf_mem e1)
      have : ft (as.map (argSl ρ)) j = [q2] := by
        unfold ft
        rw [List.getElem?_map, e1]
        show foot (ρ.getD i .no) = [q2]
        rw [getD_some e2]
        rfl
      rw [← q, this]
      exact List.pairwise_singleton _ _
  · obtain ⟨i1, e1, k1⟩ := args_ft h1
    obtain ⟨i2, e2, k2⟩ := args_ft h2
    have z := ok.dj i1 i2 a k1 k2
    subst z
    exact slotsOf_inj g.1 e1 e2
  · obtain ⟨i, _, k⟩ := args_ft h
    exact ok.out i a k
theorem putB_at {as : List Arg} {ss : List Sl} {k : Nat} (l : k < ρ.length) : (putB as ss ρ)[k]? = some (match lookS as ss k with
  | some s => s
  | none => ρ.getD k .no) := by
  unfold putB
  rw [List.getElem?_map, List.getElem?_range l]
  rfl
theorem putB_len {as : List Arg} {ss : List Sl} : (putB as ss ρ).length = ρ.length := by simp [putB]
theorem ft_putB {as : List Arg} {ss : List Sl} {k : Nat} {a : Addr} (h : a ∈ ft (putB as ss ρ) k) : (∃ j, as[j]? = some (.inr k) ∧ a ∈ ft ss j) ∨ (lookS as ss k = none ∧ a ∈ ft ρ k) := by
  by_cases l : k < ρ.length
  · rw [ft_at (putB_at l)] at h
    split at h
    · rename_i s e
      obtain ⟨j, h1, h2⟩ := lookS_some e
      exact .inl ⟨j, h1, by rw [ft_at h2]; exact h⟩
    · rename_i e
      refine .inr ⟨e, ?_⟩
      rw [List.getD_eq_getElem?_getD, List.getElem?_eq_getElem l] at h
      rw [ft_at (List.getElem?_eq_getElem l)]
      exact h
  · rw [ft_no (List.getElem?_eq_none (by rw [putB_len]; omega))] at h
    cases h
theorem args_back {K : PySem.W.Frag} {vs : List V} {as : List Arg} {ss' : List Sl} {I' H' : Hp} (ok : EnvOk K I H σ ρ) (r : Paired (ArgR K I σ) vs as) (g : GoodArgs ρ as) (ok' : EnvOk K I' H' (vs.map some) ss') (st : Step I H (Mt (as.map (argSl ρ))) I' H' (Mt ss')) (mt : ∀ a, Mt ss' a → Mt (as.map (argSl ρ)) a) :
    Go false K σ ρ I H (putB as ss' ρ) I' H' := by
  have near : ∀ a, Mt (as.map (argSl ρ)) a → Mt ρ a := fun a ⟨j, h⟩ => by
    obtain ⟨i, _, h⟩ := args_ft h
    exact ⟨i, h⟩
  have far : ∀ a k, a ∈ ft ρ k → k ∉ slotsOf as → ¬ Mt (as.map (argSl ρ)) a := fun a k h n ⟨j, hj⟩ => by
    obtain ⟨i, e, h2⟩ := args_ft hj
    exact n (by rw [← ok.dj i k a h2 h]; exact slotsOf_mem e)
  have la : as.length = ss'.length := by
    have := ok'.len
    rw [List.length_map, paired_len r] at this
    exact this
  have mtb : ∀ a, Mt (putB as ss' ρ) a → Mt ρ a := fun a ⟨k, h⟩ => by
    rcases ft_putB h with ⟨j, _, h⟩ | ⟨_, h⟩
    · exact near a (mt a ⟨j, h⟩)
    · exact ⟨k, h⟩
  refine ⟨⟨by rw [putB_len]; exact ok.len, fun k s e => ?_, fun k => ?_, fun k1 k2 a h1 h2 => ?_, fun k a h => ?_, ok'.sub⟩, ⟨st.ii, fun a o e n => st.oth a o e fun z => n (near a z), fun a o e z n => st.fr a o e z fun q => n (near a q), fun a h => .inl (mtb a h), st.al⟩, mtb⟩
  · have l : k < ρ.length := by
      have := (List.getElem?_eq_some_iff.mp e).1
      rwa [putB_len] at this
    rw [putB_at l] at e
    cases e1 : lookS as ss' k with
    | some t =>
      rw [e1] at e
      cases e
      obtain ⟨j, h1, h2⟩ := lookS_some e1
      obtain ⟨v, hv, rv⟩ := paired_at r h1
      have q := ok'.ok j _ h2
      rw [List.getElem?_map, hv] at q
      rw [show σ[k]? = some (some v) from rv]
      exact q
    | none =>
      rw [e1] at e
      cases e
      have h2 : ρ[k]? = some (ρ.getD k .no) := by rw [List.getD_eq_getElem?_getD, List.getElem?_eq_getElem l]; rfl
      refine (ok.ok k _ h2).grow st.ii fun q o hq e2 => st.oth q o e2 (far q k ?_ (lookS_none la e1))
      rw [ft_at h2]
      exact hq
  · by_cases l : k < ρ.length
    · rw [ft_at (putB_at l)]
      cases e1 : lookS as ss' k with
      | some t =>
        obtain ⟨j, h1, h2⟩ := lookS_some e1
        have := ok'.nd j
        rw [ft_at h2] at this
        exact this
      | none =>
        have h2 : ρ[k]? = some (ρ.getD k .no) := by rw [List.getD_eq_getElem?_getD, List.getElem?_eq_getElem l]; rfl
        have := ok.nd k
        rw [ft_at h2] at this
        exact this
    · rw [ft_no (List.getElem?_eq_none (by rw [putB_len]; omega))]
      exact List.nodup_nil
  · rcases ft_putB h1 with ⟨j1, e1, m1⟩ | ⟨n1, m1⟩ <;> rcases ft_putB h2 with ⟨j2, e2, m2⟩ | ⟨n2, m2⟩
    · have z := ok'.dj j1 j2 a m1 m2
      subst z
      rw [e1] at e2
      cases e2
      rfl
    · exact absurd (mt a ⟨j1, m1⟩) (far a k2 m2 (lookS_none la n2))
    · exact absurd (mt a ⟨j2, m2⟩) (far a k1 m1 (lookS_none la n1))
    · exact ok.dj k1 k2 a m1 m2
  · rcases ft_putB h with ⟨j, e, m⟩ | ⟨n, m⟩
    · exact ok'.out j a m
    · obtain ⟨o, e⟩ := ok.there ⟨k, m⟩
      exact st.fr a o e (ok.out k a m) (far a k m (lookS_none la n))
theorem em_callM (F : Cal X.prog X.w X.K X.mg X.base x k ps sp) (hr : Room k X.A) (h : ZM X (e :: es) ρ W fun as ρ1 => GoodArgs ρ1 as ∧ sp (as.map (argSl ρ1)) (fun o d ss' => Q o d (putB as ss' ρ1)) W0) (hg : Gl X x := by rfl) (hdb : (x == ("__debug__" : Str)) = false := by decide)
    (he : starEach (e :: es) X.env = (false, eval e X.env) :: starEach es X.env := by rfl) (hpl : (backTo pos (starEach es X.env)).any (·.1) = false := by rfl) : EM false X (.Call (.Name x p) (e :: es) [] pos) ρ W Q := fun σ I H ok xk R f => by
  obtain ⟨fa, fd, F, hm, hk, hb⟩ := F
  refine ⟨_, pe_call F hr hg hm hk hb .nil (L2N.passes_call (W := fun _ _ _ _ => False) (fun _ _ ⟨_, _, _, _, _, _, _, _, _, _, _, _, _, _, _, _, w⟩ => w.elim) fun _ _ _ _ z => z) pa_w hdb he hpl, ?_⟩
  refine h σ I H ok xk _ fun vs as ρ1 I1 H1 g1 r1 ⟨ga, q1⟩ => ?_
  have ok1 := g1.env ok
  rw [List.append_nil]
  refine ⟨as.map (argSl ρ1), I1, _, W0, args_env ok1 r1 ga, q1, fun v o d ss' I' H' ok' st mt r q => ?_, .inl fun _ z => z⟩
  exact f v o d _ I' H' (g1.trans (args_back ok1 r1 ga ok' st mt)) (r.back g1.nn) q
end

/-! ### the rule of a def -/
/-- what the slots handed in hold at the end -/
structure ParOk (ss ρ ss' : List Sl) : Prop where
  len : ss'.length = ss.length
  at_ : ∀ (i : Nat) (s : Sl), ss'[i]? = some s → (ss[i]? = some s ∧ ∃ d, s = .va d) ∨ (∃ p m m', ss[i]? = some (.mo p m) ∧ s = .mo p m' ∧ ρ[i]? = some s)
theorem ParOk.va {ds : List D} {ρ : List Sl} : ParOk (ds.map Sl.va) ρ (ds.map Sl.va) := ⟨rfl, fun i s e => .inl ⟨e, by
  rw [List.getElem?_map] at e
  cases e1 : ds[i]? with
  | none => rw [e1] at e; cases e
  | some d => rw [e1] at e; cases e; exact ⟨d, rfl⟩⟩⟩
theorem ParOk.mt {ss ρ ss' : List Sl} (p : ParOk ss ρ ss') {i : Nat} {a : Addr} (h : a ∈ ft ss' i) : a ∈ ft ss i ∧ a ∈ ft ρ i := by
  unfold ft at h
  cases e : ss'[i]? with
  | none => rw [e] at h; cases h
  | some s =>
    rw [e] at h
    rcases p.at_ i s e with ⟨e1, d, rfl⟩ | ⟨q, m, m', e1, rfl, e2⟩
    · cases h
    · exact ⟨by rw [ft_at e1]; exact h, by rw [ft_at e2]; exact h⟩
/-- the end of a def -/
def FinP (ss : List Sl) (P : Bool → D → List Sl → Prop) (o : Bool) (d : D) (ρ : List Sl) : Prop := ∃ ss', ParOk ss ρ ss' ∧ P o d ss' ∧ (o = true → ∀ a, ¬ Mt ss a)
theorem FinP.va {ds : List D} {P : Bool → D → List Sl → Prop} {o : Bool} {d : D} {ρ : List Sl} (h : P o d (ds.map Sl.va)) : FinP (ds.map Sl.va) P o d ρ := ⟨_, .va, h, fun _ _ => mt_va⟩
def startS (n : Nat) (ss : List Sl) : List Sl := ss ++ List.replicate (n - ss.length) .no
theorem startS_at {n : Nat} {ss : List Sl} {i : Nat} {s : Sl} (h : (startS n ss)[i]? = some s) : ss[i]? = some s ∨ s = .no := by
  unfold startS at h
  by_cases l : i < ss.length
  · rw [List.getElem?_append_left l] at h
    exact .inl h
  · rw [List.getElem?_append_right (by omega), List.getElem?_replicate] at h
    split at h
    · cases h; exact .inr rfl
    · cases h
theorem startS_ft {n : Nat} {ss : List Sl} {i : Nat} {a : Addr} (h : a ∈ ft (startS n ss) i) : a ∈ ft ss i := by
  unfold ft at h ⊢
  cases e : (startS n ss)[i]? with
  | none => rw [e] at h; cases h
  | some s =>
    rw [e] at h
    rcases startS_at e with z | rfl
    · rw [z]; exact h
    · cases h
section
variable {P : Program} {w : World} {K : PySem.W.Frag} {mg : Str → Option Value} {base : Heap}
theorem fn_okF {x qual : Str} {st : Stmt} {f : Addr} {fd : FuncData} {N ps : List Str} {k : Nat} {sp : DSp} (F : Fun K x qual st f fd) (S : FnScope N ps (defScope st)) (len : ∀ ss P W, sp ss P W → ss.length = ps.length)
    (hbody : ∀ (cdv : Value) (A : Around) (outer : List Env) (s : Shared) (H : Hp) (E : XK), Room k (A.deeper (envOfC qual (defScope st) s.heap.objs.size f cdv)) → ∀ ss Q W, sp ss Q W →
      SD (cxOf (L2N.CX P w) P w K mg base N qual (defScope st) f cdv A outer s H E) (defBody st) (startS N.length ss) W { nx := FinP ss Q false .none, rt := FinP ss Q }) : FnOk P w K mg base (L2N.CX P w) (k + 1) f fd ps (toSp K sp) := by
  obtain ⟨oc, od, kV, doc, pm, an, cdv, ct, osl, rfl, lk, hcd⟩ := F.ex
  refine fn_of lk hcd S (fun vs H Q E ⟨ss, I, P, W, ok, h, _⟩ => ?_) (fun A outer s H vs Q E hr ⟨ss, I, P', W, ok, h, hq, hx⟩ => ?_)
  · have := ok.len
    rw [List.length_map] at this
    rw [this, len _ _ _ h]
  · have el : vs.length = ss.length := by
      have := ok.len
      rw [List.length_map] at this
      exact this
    have ok0 : EnvOk K I H (L2.start N vs) (startS N.length ss) := by
      refine ⟨?_, fun i t e => ?_, fun i => ?_, fun i j a h1 h2 => ok.dj i j a (startS_ft h1) (startS_ft h2), fun i a h => ok.out i a (startS_ft h), ok.sub⟩
      · unfold L2.start startS
        rw [List.length_append, List.length_append, List.length_map, List.length_replicate, List.length_replicate, el]
      · by_cases l : i < ss.length
        · have e1 : ss[i]? = some t := by
            unfold startS at e
            rwa [List.getElem?_append_left l] at e
          have e2 : (L2.start N vs)[i]? = (vs.map some)[i]? := by
            unfold L2.start
            rw [List.getElem?_append_left (by rw [List.length_map, el]; exact l)]
          rw [e2]
          exact ok.ok i t e1
        · rcases startS_at e with z | z
          · exact absurd (List.getElem?_eq_some_iff.mp z).1 l
          · subst z
            trivial
      · cases q : ft (startS N.length ss) i with
        | nil => exact List.nodup_nil
        | cons a r =>
          have m : a ∈ ft ss i := startS_ft (n := N.length) (by rw [q]; exact List.mem_cons_self)
          have l : i < ss.length := by
            apply Decidable.byContradiction
            intro l
            rw [ft_no (List.getElem?_eq_none (by omega))] at m
            cases m
          have : ft (startS N.length ss) i = ft ss i := by
            unfold ft startS
            rw [List.getElem?_append_left l]
          rw [← q, this]
          exact ok.nd i
    have mt0 : ∀ a, Mt (startS N.length ss) a → Mt ss a := fun a ⟨i, h⟩ => ⟨i, startS_ft h⟩
    have xk : XOk (cxOf (L2N.CX P w) P w K mg base N qual (defScope st) f cdv A outer s H E) W H (startS N.length ss) := by
      rcases hx with hx | ⟨nm, hx⟩
      · have e : W = W0 := by
          funext c
          exact propext ⟨fun z => hx c z, fun z => z.elim⟩
        rw [e]
        exact .zero
      · exact ⟨H, (L2N.takes_of rfl rfl rfl rfl).imp fun cls d σ H' ⟨wc, e, sm⟩ => by
          subst e
          exact hx cls H' sm wc, Same.refl H, fun a m => absurd (mt0 a m) (nm a)⟩
    have fin : ∀ v o d σ' ρ' I' H', EnvOk K I' H' σ' ρ' → Step I H (Mt (startS N.length ss)) I' H' (Mt ρ') → RtOk K H (Mt (startS N.length ss)) I' H' v o d → FinP ss P' o d ρ' → Q v H' := by
      intro v o d σ' ρ' I' H' ok' st' r ⟨ss', po, q, ho⟩
      have nms : ∀ a, ¬ Mt ss a → ¬ Mt (startS N.length ss) a := fun a n z => n (mt0 a z)
      refine hq v o d ss' I' H' ⟨by rw [ok.len, po.len], fun i t e => ?_, fun i => ?_, fun i j a h1 h2 => ok'.dj i j a (po.mt h1).2 (po.mt h2).2, fun i a h => ok'.out i a (po.mt h).2, ok'.sub⟩
        ⟨st'.ii, fun a u e n => st'.oth a u e (nms a n), fun a u e z n => st'.fr a u e z (nms a n), fun a ⟨i, h⟩ => .inl ⟨i, (po.mt h).1⟩, st'.al⟩ (fun a ⟨i, h⟩ => ⟨i, (po.mt h).1⟩) ?_ q
      · rcases po.at_ i t e with ⟨e1, d', rfl⟩ | ⟨p, m, m', e1, rfl, e2⟩
        · exact (ok.ok i _ e1).grow st'.ii fun q o hq => by cases hq
        · obtain ⟨v1, h1, r1⟩ := ok.at e1 (fun z => nomatch z)
          obtain ⟨v2, h2, r2⟩ := ok'.at e2 (fun z => nomatch z)
          rw [h1]
          exact ⟨r1.1, r2.2⟩
      · cases q2 : ft ss' i with
        | nil => exact List.nodup_nil
        | cons a r2 =>
          have ex : ∃ t, ss'[i]? = some t := by
            cases e : ss'[i]? with
            | none => rw [ft_no e] at q2; cases q2
            | some t => exact ⟨t, rfl⟩
          obtain ⟨t, e⟩ := ex
          rcases po.at_ i t e with ⟨e1, d', rfl⟩ | ⟨p, m, m', e1, rfl, e2⟩
          · rw [ft_at e] at q2
            cases q2
          · rw [← q2, ft_at e]
            exact List.pairwise_singleton _ _
      · cases o with
        | false => exact r
        | true =>
          obtain ⟨p, xs, ds, h1, h2, h3, h4⟩ := r
          refine ⟨p, xs, ds, h1, h2, ?_, h4⟩
          rcases h3 with z | z
          · exact z
          · exact absurd (mt0 p z) (ho rfl p)
    obtain ⟨t, ht, q⟩ := hbody cdv A outer s H E hr ss P' W h (L2.start N vs) I H ok0 xk { nx := fun _ H' => Q .non H', rt := Q }
      ⟨fun σ' ρ' I' H' ok' st' q => fin .non false .none σ' ρ' I' H' ok' st' Rv.mkNon q, fun v o d σ' ρ' I' H' ok' st' r q => fin v o d σ' ρ' I' H' ok' st' r q, fun _ _ _ _ _ _ q => q.elim, fun _ _ _ _ _ _ q => q.elim⟩
    exact ⟨t, ht, q⟩
theorem fn_ok {x qual : Str} {st : Stmt} {f : Addr} {fd : FuncData} {N ps : List Str} {k : Nat} {sp : DSp} (F : Fun K x qual st f fd) (hm : mg x = some (.ref f)) (hb : Binds K fd ps []) (S : FnScope N ps (defScope st)) (len : ∀ ss P W, sp ss P W → ss.length = ps.length)
    (hbody : ∀ (cdv : Value) (A : Around) (outer : List Env) (s : Shared) (H : Hp) (E : XK), Room k (A.deeper (envOfC qual (defScope st) s.heap.objs.size f cdv)) → ∀ ss Q W, sp ss Q W →
      SD (cxOf (L2N.CX P w) P w K mg base N qual (defScope st) f cdv A outer s H E) (defBody st) (startS N.length ss) W { nx := FinP ss Q false .none, rt := FinP ss Q }) : Cal P w K mg base x (k + 1) ps sp := ⟨f, fd, fn_okF F S len hbody, hm, F.kp, hb⟩
end
end Tt

namespace Tt
open PySem PySem.Spec PyProof.Rows L2

abbrev tx (l : List Nat) : D := .str (S l)
theorem S_toList (z : Str) : S z.cps.toList = z := by
  cases z
  simp [S]
theorem S_len (l : List Nat) : (S l).length = l.length := by simp [S, Str.length]
theorem S_app (a b : List Nat) : S a ++ S b = S (a ++ b) := by
  show (⟨a.toArray ++ b.toArray⟩ : Str) = ⟨(a ++ b).toArray⟩
  simp
theorem S_inj {a b : List Nat} : S a = S b ↔ a = b := ⟨fun h => by
  have := congrArg (fun z : Str => z.cps.toList) h
  simpa [S] using this, fun h => by rw [h]⟩
/-- the items of xs[lo:hi] -/
def cut {α : Type} (xs : List α) (lo hi : Option Int) : List α := (xs.drop (HT.sIx xs.length 0 lo)).take (HT.sIx xs.length xs.length hi - HT.sIx xs.length 0 lo)
theorem cut_map {α β : Type} (f : α → β) (xs : List α) (lo hi : Option Int) : cut (xs.map f) lo hi = (cut xs lo hi).map f := by simp [cut, List.map_take, List.map_drop]
theorem cutS_S (l : List Nat) (lo hi : Option Int) : cutS (S l) lo hi = S (cut l lo hi) := by
  have e : (S l).length = l.length := S_len l
  unfold cutS cut
  rw [e]
theorem sIx_of (n d : Nat) (i : Int) : HT.sIx n d (some i) = if i < 0 then (i + n).toNat else min i.toNat n := by
  by_cases h : i < 0
  · rw [if_pos h]
    have e := HT.clip_eq i n d
    rw [if_pos h] at e
    omega
  · rw [if_neg h]
    have e := HT.clip_eq i n d
    rw [if_neg h] at e
    omega
theorem cut_drop {α : Type} (xs : List α) (k : Nat) : cut xs (some (k : Int)) none = xs.drop k := by
  unfold cut
  rw [sIx_of, if_neg (by omega), HT.sIx_none]
  have e : min (k : Int).toNat xs.length = min k xs.length := by simp
  rw [e]
  by_cases h : k ≤ xs.length
  · rw [Nat.min_eq_left h]
    exact List.take_of_length_le (by simp)
  · rw [Nat.min_eq_right (by omega), List.drop_eq_nil_of_le (by omega : xs.length ≤ k)]
    simp
theorem cut_take {α : Type} (xs : List α) (k : Nat) : cut xs none (some (k : Int)) = xs.take k := by
  unfold cut
  rw [sIx_of, if_neg (by omega), HT.sIx_none]
  have e : min (k : Int).toNat xs.length = min k xs.length := by simp
  rw [e, List.drop_zero, Nat.sub_zero, ← List.take_take, List.take_length]
theorem cut_init {α : Type} (xs : List α) : cut xs none (some (-1)) = xs.dropLast := by
  unfold cut
  rw [sIx_of, if_pos (by omega), HT.sIx_none, List.drop_zero, List.dropLast_eq_take]
  congr 1
  omega
theorem cut_mid {α : Type} (xs : List α) (i j : Nat) : cut xs (some (i : Int)) (some (j : Int)) = (xs.take j).drop i := by
  unfold cut
  rw [sIx_of, if_neg (by omega), sIx_of, if_neg (by omega)]
  have e1 : min (i : Int).toNat xs.length = min i xs.length := by simp
  have e2 : min (j : Int).toNat xs.length = min j xs.length := by simp
  rw [e1, e2, List.drop_take]
  by_cases h : i ≤ xs.length
  · rw [Nat.min_eq_left h]
    by_cases hj : j ≤ xs.length
    · rw [Nat.min_eq_left hj]
    · rw [Nat.min_eq_right (by omega), List.take_of_length_le (by simp), List.take_of_length_le (by simp; omega)]
  · rw [List.drop_eq_nil_of_le (by omega : xs.length ≤ i), List.drop_eq_nil_of_le (by omega : xs.length ≤ min i xs.length)]
    simp

section
variable {X : Cx} {Q : Bool → D → Prop} {i j : Int} {x y : Str}
theorem Res.val {I H : Hp} {R : VK} {v : V} {d : D} (k : Res X I H Q R) (s : Sub I H) (r : Rv X.K I v d) (q : Q false d) : R v H := k v false d I H (Grow.refl s) r q
theorem Res.lst {I H : Hp} {R : VK} {xs : List V} {ds : List D} (k : Res X I H Q R) (s : Sub I H) (t : DqAll I xs ds) (q : Q true (.list ds)) {p : Addr} (n : H p = none) : R (.ref p) (upd H p (.lst xs)) :=
  k _ true _ I _ (Grow.dark s n) ⟨p, xs, ds, rfl, rfl, n, s.nn n, upd_same, t⟩ q
theorem Res.tup {I H : Hp} {R : VK} {xs : List V} {ds : List D} (k : Res X I H Q R) (s : Sub I H) (t : DqAll I xs ds) (q : Q false (.tuple ds)) {p : Addr} (n : H p = none) : R (.ref p) (upd H p (.tup xs)) := by
  have g := Grow.new (o := .tup xs) s n
  exact k _ false _ _ _ g (Rv.mkT upd_same (DqAll.same g.ii t)) q

/-! numbers -/
theorem fd_add_int (q : Q false (.int (i + j))) : FD X (binaryOp .Add) (.int i) (.int j) Q := fun I H v u s rv ru R k => by
  rw [rv.int, ru.int]
  exact ⟨_, op_add, i, j, rfl, rfl, k.val s .mkInt q⟩
theorem fd_sub_int (q : Q false (.int (i - j))) : FD X (binaryOp .Sub) (.int i) (.int j) Q := fun I H v u s rv ru R k => by
  rw [rv.int, ru.int]
  exact ⟨_, op_sub, i, j, rfl, rfl, k.val s .mkInt q⟩
theorem fd_mul_int (c : CMul i j) (q : Q false (.int (i * j))) : FD X (binaryOp .Mult) (.int i) (.int j) Q := fun I H v u s rv ru R k => by
  rw [rv.int, ru.int]
  exact ⟨_, op_mul, i, j, rfl, rfl, c, k.val s .mkInt q⟩
theorem fd_mod_int (c : 0 < j) (q : Q false (.int (i % j))) : FD X (binaryOp .Mod) (.int i) (.int j) Q := fun I H v u s rv ru R k => by
  rw [rv.int, ru.int]
  exact ⟨_, op_mod, i, j, rfl, rfl, c, k.val s .mkInt q⟩
theorem fd_div_int (c : CDiv i j) (q : Q false (.int (i / j))) : FD X (binaryOp .FloorDiv) (.int i) (.int j) Q := fun I H v u s rv ru R k => by
  rw [rv.int, ru.int]
  exact ⟨_, op_fdiv, i, j, rfl, rfl, c, k.val s .mkInt q⟩
theorem fd_pow_int (c : CPow i j) (q : Q false (.int (i ^ j.toNat))) : FD X (binaryOp .Pow) (.int i) (.int j) Q := fun I H v u s rv ru R k => by
  rw [rv.int, ru.int]
  exact ⟨_, op_pow, i, j, rfl, rfl, c, k.val s .mkInt q⟩
theorem gd_neg (q : Q false (.int (-i))) : GD X (unaryOp .USub) (.int i) Q := fun I H v s rv R k => by
  rw [rv.int]
  exact ⟨_, un_neg, i, rfl, k.val s .mkInt q⟩
theorem fd_lt (q : Q false (.bool (decide (i < j)))) : FD X (compareOp .Lt) (.int i) (.int j) Q := fun I H v u s rv ru R k => by
  rw [rv.int, ru.int]
  exact ⟨_, op_lt, i, j, rfl, rfl, k.val s .mkBl q⟩
theorem fd_le (q : Q false (.bool (decide (i ≤ j)))) : FD X (compareOp .LtE) (.int i) (.int j) Q := fun I H v u s rv ru R k => by
  rw [rv.int, ru.int]
  exact ⟨_, op_le, i, j, rfl, rfl, k.val s .mkBl q⟩
theorem fd_gt (q : Q false (.bool (decide (j < i)))) : FD X (compareOp .Gt) (.int i) (.int j) Q := fun I H v u s rv ru R k => by
  rw [rv.int, ru.int]
  exact ⟨_, op_gt, i, j, rfl, rfl, k.val s .mkBl q⟩
theorem fd_ge (q : Q false (.bool (decide (j ≤ i)))) : FD X (compareOp .GtE) (.int i) (.int j) Q := fun I H v u s rv ru R k => by
  rw [rv.int, ru.int]
  exact ⟨_, op_ge, i, j, rfl, rfl, k.val s .mkBl q⟩
theorem fd_eq_int (q : Q false (.bool (decide (i = j)))) : FD X (compareOp .Eq) (.int i) (.int j) Q := fun I H v u s rv ru R k => by
  rw [rv.int, ru.int]
  refine ⟨_, op_eq, rfl, ?_⟩
  have e : decide (V.int i = V.int j) = decide (i = j) := by simp
  rw [e]
  exact k.val s .mkBl q
theorem fd_ne_int (q : Q false (.bool (!decide (i = j)))) : FD X (compareOp .NotEq) (.int i) (.int j) Q := fun I H v u s rv ru R k => by
  rw [rv.int, ru.int]
  refine ⟨_, op_ne, rfl, ?_⟩
  have e : decide (V.int i = V.int j) = decide (i = j) := by simp
  rw [e]
  exact k.val s .mkBl q
/-! texts -/
theorem fd_eq_str (q : Q false (.bool (decide (x = y)))) : FD X (compareOp .Eq) (.str x) (.str y) Q := fun I H v u s rv ru R k => by
  rw [rv.str, ru.str]
  refine ⟨_, op_eq, rfl, ?_⟩
  have e : decide (V.str x = V.str y) = decide (x = y) := by simp
  rw [e]
  exact k.val s .mkBl q
theorem fd_ne_str (q : Q false (.bool (!decide (x = y)))) : FD X (compareOp .NotEq) (.str x) (.str y) Q := fun I H v u s rv ru R k => by
  rw [rv.str, ru.str]
  refine ⟨_, op_ne, rfl, ?_⟩
  have e : decide (V.str x = V.str y) = decide (x = y) := by simp
  rw [e]
  exact k.val s .mkBl q
theorem fd_eq_bool {b c : Bool} (q : Q false (.bool (decide (b = c)))) : FD X (compareOp .Eq) (.bool b) (.bool c) Q := fun I H v u s rv ru R k => by
  rw [rv.bl, ru.bl]
  refine ⟨_, op_eq, rfl, ?_⟩
  have e : decide (V.bl b = V.bl c) = decide (b = c) := by simp
  rw [e]
  exact k.val s .mkBl q
theorem fd_ne_bool {b c : Bool} (q : Q false (.bool (!decide (b = c)))) : FD X (compareOp .NotEq) (.bool b) (.bool c) Q := fun I H v u s rv ru R k => by
  rw [rv.bl, ru.bl]
  refine ⟨_, op_ne, rfl, ?_⟩
  have e : decide (V.bl b = V.bl c) = decide (b = c) := by simp
  rw [e]
  exact k.val s .mkBl q
theorem fd_add_str (c : x.length + y.length ≤ sizeLine) (q : Q false (.str (x ++ y))) : FD X (binaryOp .Add) (.str x) (.str y) Q := fun I H v u s rv ru R k => by
  rw [rv.str, ru.str]
  exact ⟨_, op_add_str, x, y, rfl, rfl, c, k.val s .mkStr q⟩
theorem fd_le_str (q : Q false (.bool (!decide (y.cps.toList < x.cps.toList)))) : FD X (compareOp .LtE) (.str x) (.str y) Q := fun I H v u s rv ru R k => by
  rw [rv.str, ru.str]
  exact ⟨_, op_le_str, x, y, rfl, rfl, k.val s .mkBl q⟩
theorem fd_in_sign {c : Nat} (q : Q false (.bool (decide (c ∈ y.cps.toList)))) : FD X (compareOp .In) (.str ⟨#[c]⟩) (.str y) Q := fun I H v u s rv ru R k => by
  rw [rv.str, ru.str]
  exact ⟨_, op_in_sign, c, y, rfl, rfl, k.val s .mkBl q⟩
theorem fd_notIn_sign {c : Nat} (q : Q false (.bool (!decide (c ∈ y.cps.toList)))) : FD X (compareOp .NotIn) (.str ⟨#[c]⟩) (.str y) Q := fun I H v u s rv ru R k => by
  rw [rv.str, ru.str]
  exact ⟨_, op_notIn_sign, c, y, rfl, rfl, k.val s .mkBl q⟩
/-! None -/
/-- whether it is None -/
def isN : D → Bool
  | .none => true
  | _ => false
theorem Rv.isNone {K : PySem.W.Frag} {I : Hp} {v : V} {d : D} (h : Rv K I v d) : decide (v = .non) = isN d := by
  rcases h.is with h | ⟨a, ks, _, rfl, rfl, _⟩ | ⟨a, ns, rfl, rfl, _⟩
  · cases h <;> simp [isN]
  · simp [dictD, isN]
  · simp [scriptD, isN]
theorem fd_is_none {d : D} (q : Q false (.bool (isN d))) : FD X (compareOp .Is) d .none Q := fun I H v u s rv ru R k => by
  rw [ru.non]
  refine ⟨_, op_isN, rfl, ?_⟩
  rw [rv.isNone]
  exact k.val s .mkBl q
theorem fd_isnot_none {d : D} (q : Q false (.bool (!isN d))) : FD X (compareOp .IsNot) d .none Q := fun I H v u s rv ru R k => by
  rw [ru.non]
  refine ⟨_, op_notN, rfl, ?_⟩
  rw [rv.isNone]
  exact k.val s .mkBl q
/-! data -/
theorem Rv.dpH {K : PySem.W.Frag} {I H : Hp} {v : V} {d : D} (s : Sub I H) (h : Rv K I v d) (n : nd d = true) : Dp K H v d := Dq.dp (Dq.sub s (h.dp n))
theorem nd_shaped {d : D} (h : SeqAt.shaped d = true) : nd d = true := by
  cases d <;> first | rfl | (simp [SeqAt.shaped, PyData.canLay0] at h)
theorem fd_eq {d e : D} (hu : X.A.units + 64 < cLine) (h1 : SeqAt.shaped d = true) (h2 : SeqAt.shaped e = true) (q : Q false (.bool (PyData.eqv d e))) : FD X (compareOp .Eq) d e Q := fun I H v u s rv ru R k =>
  ⟨_, op_eqD hu, d, e, rv.dpH s (nd_shaped h1), ru.dpH s (nd_shaped h2), h1, h2, k.val s .mkBl q⟩
theorem fd_ne {d e : D} (hu : X.A.units + 64 < cLine) (h1 : SeqAt.shaped d = true) (h2 : SeqAt.shaped e = true) (q : Q false (.bool (!PyData.eqv d e))) : FD X (compareOp .NotEq) d e Q := fun I H v u s rv ru R k =>
  ⟨_, op_neD hu, d, e, rv.dpH s (nd_shaped h1), ru.dpH s (nd_shaped h2), h1, h2, k.val s .mkBl q⟩
theorem fd_in_list {d : D} {ds : List D} (hu : X.A.units + 65 < cLine) (h1 : SeqAt.shaped d = true) (h2 : SeqAt.shaped (.list ds) = true) (q : Q false (.bool (ds.any fun z => PyData.eqv z d))) : FD X (compareOp .In) d (.list ds) Q := fun I H v u s rv ru R k =>
  ⟨_, op_inD hu, d, ds, rv.dpH s (nd_shaped h1), ru.dpH s rfl, h1, h2, k.val s .mkBl q⟩
theorem fd_notIn_list {d : D} {ds : List D} (hu : X.A.units + 65 < cLine) (h1 : SeqAt.shaped d = true) (h2 : SeqAt.shaped (.list ds) = true) (q : Q false (.bool (!ds.any fun z => PyData.eqv z d))) : FD X (compareOp .NotIn) d (.list ds) Q := fun I H v u s rv ru R k =>
  ⟨_, op_notInD hu, d, ds, rv.dpH s (nd_shaped h1), ru.dpH s rfl, h1, h2, k.val s .mkBl q⟩
def rInT (K : PySem.W.Frag) : R2 := fun x y H Q => ∃ d ds, Dp K H x d ∧ Dp K H y (.tuple ds) ∧ SeqAt.shaped d = true ∧ SeqAt.shaped (.tuple ds) = true ∧ Q (.bl (ds.any fun z => PyData.eqv z d)) H
def rNotInT (K : PySem.W.Frag) : R2 := fun x y H Q => ∃ d ds, Dp K H x d ∧ Dp K H y (.tuple ds) ∧ SeqAt.shaped d = true ∧ SeqAt.shaped (.tuple ds) = true ∧ Q (.bl (!ds.any fun z => PyData.eqv z d)) H
theorem op_inT (hu : X.A.units + 65 < cLine) : OpR X (compareOp .In) (rInT X.K) := by
  intro pins s σ H x y v u Q I rx ry h
  obtain ⟨d, ds, hd, he, sd, se, q⟩ := h
  obtain ⟨as, r1⟩ := Dp.reads I d x v hd rx
  obtain ⟨bs, r2⟩ := Dp.reads I (.tuple ds) y u he ry
  exact SeqAt.in_tuple_reads r2 r1 (SeqAt.canLay_of_shaped se) (SeqAt.canLay_of_shaped sd) (room_in_shaped sd hu) ⟨.bl _, H, I, rfl, q⟩
theorem op_notInT (hu : X.A.units + 65 < cLine) : OpR X (compareOp .NotIn) (rNotInT X.K) := by
  intro pins s σ H x y v u Q I rx ry h
  obtain ⟨d, ds, hd, he, sd, se, q⟩ := h
  obtain ⟨as, r1⟩ := Dp.reads I d x v hd rx
  obtain ⟨bs, r2⟩ := Dp.reads I (.tuple ds) y u he ry
  exact SeqAt.notIn_tuple_reads r2 r1 (SeqAt.canLay_of_shaped se) (SeqAt.canLay_of_shaped sd) (room_in_shaped sd hu) ⟨.bl _, H, I, rfl, q⟩
theorem fd_in_tuple {d : D} {ds : List D} (hu : X.A.units + 65 < cLine) (h1 : SeqAt.shaped d = true) (h2 : SeqAt.shaped (.tuple ds) = true) (q : Q false (.bool (ds.any fun z => PyData.eqv z d))) : FD X (compareOp .In) d (.tuple ds) Q := fun I H v u s rv ru R k =>
  ⟨_, op_inT hu, d, ds, rv.dpH s (nd_shaped h1), ru.dpH s rfl, h1, h2, k.val s .mkBl q⟩
theorem fd_notIn_tuple {d : D} {ds : List D} (hu : X.A.units + 65 < cLine) (h1 : SeqAt.shaped d = true) (h2 : SeqAt.shaped (.tuple ds) = true) (q : Q false (.bool (!ds.any fun z => PyData.eqv z d))) : FD X (compareOp .NotIn) d (.tuple ds) Q := fun I H v u s rv ru R k =>
  ⟨_, op_notInT hu, d, ds, rv.dpH s (nd_shaped h1), ru.dpH s rfl, h1, h2, k.val s .mkBl q⟩
/-! lists, tuples put together -/
theorem fd_add_list {ds es : List D} (c : ds.length + es.length ≤ sizeLine) (q : Q true (.list (ds ++ es))) : FD X (binaryOp .Add) (.list ds) (.list es) Q := fun I H v u s rv ru R k => by
  obtain ⟨a, xs, rfl, ha, t⟩ := rv.lst
  obtain ⟨b, ys, rfl, hb, t'⟩ := ru.lst
  exact ⟨_, op_cat, a, b, xs, ys, rfl, rfl, s.lst ha, s.lst hb, by rw [t.len, t'.len]; exact c, fun p n => k.lst s (DqAll.app t t') q n⟩
theorem fd_add_tuple {ds es : List D} (c : ds.length + es.length ≤ sizeLine) (q : Q false (.tuple (ds ++ es))) : FD X (binaryOp .Add) (.tuple ds) (.tuple es) Q := fun I H v u s rv ru R k => by
  obtain ⟨a, xs, rfl, ha, t⟩ := rv.tup
  obtain ⟨b, ys, rfl, hb, t'⟩ := ru.tup
  refine ⟨_, op_catA, a, b, xs, ys, rfl, rfl, SqT.of (s.tup ha), SqT.of (s.tup hb), by rw [t.len, t'.len]; exact c, fun e => ?_, fun _ e => ?_, fun _ _ p n => k.tup s (DqAll.app t t') q n⟩
  · subst e
    cases t
    exact k.val s ru q
  · subst e
    cases t'
    rw [List.append_nil] at q
    exact k.val s rv q
theorem dqAll_rep {I : Hp} {xs : List V} {ds : List D} (t : DqAll I xs ds) : ∀ n : Nat, DqAll I (List.replicate n xs).flatten (List.replicate n ds).flatten
  | 0 => .nil
  | n + 1 => by
    rw [List.replicate_succ, List.replicate_succ, List.flatten_cons, List.flatten_cons]
    exact DqAll.app t (dqAll_rep t n)
theorem fd_mul_list {ds : List D} (h1 : -(2 ^ 63) ≤ i) (h2 : i < 2 ^ 63) (c : ds.length * i.toNat ≤ sizeLine) (q : Q true (.list (List.replicate i.toNat ds).flatten)) : FD X (binaryOp .Mult) (.list ds) (.int i) Q := fun I H v u s rv ru R k => by
  obtain ⟨a, xs, rfl, ha, t⟩ := rv.lst
  rw [ru.int]
  exact ⟨_, op_rep, a, i, xs, rfl, rfl, s.lst ha, h1, h2, by rw [t.len]; exact c, fun p n => k.lst s (dqAll_rep t _) q n⟩
theorem fd_mul_tuple {ds : List D} (hn : ds ≠ []) (h1 : 2 ≤ i) (h2 : i ≤ 1000) (c : ds.length ≤ 1000) (q : Q false (.tuple (List.replicate i.toNat ds).flatten)) : FD X (binaryOp .Mult) (.tuple ds) (.int i) Q := fun I H v u s rv ru R k => by
  obtain ⟨a, xs, rfl, ha, t⟩ := rv.tup
  rw [ru.int]
  refine ⟨_, op_repT, a, i, xs, rfl, rfl, SqT.of (s.tup ha), fun e => hn ?_, h1, h2, by rw [t.len]; exact c, fun p n => k.tup s (dqAll_rep t _) q n⟩
  subst e
  cases t
  rfl
/-! places -/
theorem atI_map {α β : Type} {f : α → β} {xs : List α} {i : Int} : atI (xs.map f) i = (atI xs i).map f := by
  unfold atI
  rw [List.length_map]
  cases ixN xs.length i with
  | none => rfl
  | some j => simp
theorem DqAll.atI {I : Hp} {xs : List V} {ds : List D} {i : Int} {d : D} (t : DqAll I xs ds) (h : L2.atI ds i = some d) : ∃ v, L2.atI xs i = some v ∧ Dq I v d := by
  unfold L2.atI at h ⊢
  rw [← t.len] at h
  cases e : ixN xs.length i with
  | none => rw [e] at h; cases h
  | some j =>
    rw [e] at h
    exact t.get h
theorem id_list {ds : List D} {d : D} (h : atI ds i = some d) (q : Q false d) : ID X (.list ds) (.int i) Q := fun I H v u s rv ru R k => by
  obtain ⟨a, xs, rfl, ha, t⟩ := rv.lst
  rw [ru.int]
  obtain ⟨v, hv, r⟩ := t.atI h
  exact ⟨_, ix_list, a, xs, i, v, rfl, rfl, SqL.of (s.lst ha), hv, k.val s ⟨.inl r⟩ q⟩
theorem id_tuple {ds : List D} {d : D} (h : atI ds i = some d) (q : Q false d) : ID X (.tuple ds) (.int i) Q := fun I H v u s rv ru R k => by
  obtain ⟨a, xs, rfl, ha, t⟩ := rv.tup
  rw [ru.int]
  obtain ⟨v, hv, r⟩ := t.atI h
  exact ⟨_, ix_tup, a, xs, i, v, rfl, rfl, SqT.of (s.tup ha), hv, k.val s ⟨.inl r⟩ q⟩
theorem id_str {c : Nat} (hz : x.length ≤ sizeLine) (h : atI x.cps.toList i = some c) (q : Q false (.str ⟨#[c]⟩)) : ID X (.str x) (.int i) Q := fun I H v u s rv ru R k => by
  rw [rv.str, ru.int]
  exact ⟨_, ix_str, x, i, c, rfl, rfl, hz, h, k.val s .mkStr q⟩
theorem id_script {ns : List Int} {n : Int} (h : atI ns i = some n) (q : Q false (.int n)) : ID X (scriptD ns) (.int i) Q := fun I H v u s rv ru R k => by
  obtain ⟨a, rfl, ha⟩ := rv.script
  rw [ru.int]
  exact ⟨_, ix_list, a, _, i, .int n, rfl, rfl, ha.sq s, by rw [atI_map, h]; rfl, k.val s .mkInt q⟩
/-! slices -/
theorem dqAll_cut {I : Hp} {xs : List V} {ds : List D} (t : DqAll I xs ds) (lo hi : Option Int) : DqAll I (cutV xs lo hi) (cut ds lo hi) := by
  unfold cutV cut
  rw [t.len]
  exact DqAll.take _ (DqAll.drop _ t)
theorem ld_list {ds : List D} {lo hi : Option Int} (q : Q true (.list (cut ds lo hi))) : LD X (.list ds) lo hi Q := fun I H v s rv R k => by
  obtain ⟨a, xs, rfl, ha, t⟩ := rv.lst
  exact ⟨_, sl_list, a, xs, rfl, SqL.of (s.lst ha), fun p n => k.lst s (dqAll_cut t lo hi) q n⟩
theorem ld_tuple {ds : List D} {lo hi : Option Int} (q : Q false (.tuple (cut ds lo hi))) : LD X (.tuple ds) lo hi Q := fun I H v s rv R k => by
  obtain ⟨a, xs, rfl, ha, t⟩ := rv.tup
  refine ⟨_, sl_tupA, a, xs, rfl, SqT.of (s.tup ha), fun ⟨h1, h2⟩ => ?_, fun _ p n => k.tup s (dqAll_cut t lo hi) q n⟩
  rw [t.len] at h1 h2
  have e : cut ds lo hi = ds := by
    unfold cut
    rw [h1, h2, List.drop_zero, Nat.sub_zero, List.take_length]
  rw [e] at q
  exact k.val s rv q
theorem ld_str {lo hi : Option Int} (hz : x.length ≤ sizeLine) (q : Q false (.str (cutS x lo hi))) : LD X (.str x) lo hi Q := fun I H v s rv R k => by
  rw [rv.str]
  exact ⟨_, sl_str, x, rfl, hz, k.val s .mkStr q⟩
/-! built-ins -/
theorem kd_one {K : PySem.W.Frag} {I : Hp} {vs : List V} {d : D} (r : Paired (Rv K I) vs [d]) : ∃ v, vs = [v] ∧ Rv K I v d := by
  cases r with
  | cons h t => cases t; exact ⟨_, rfl, h⟩
theorem kd_len_list {ds : List D} (q : Q false (.int ds.length)) : KD X (.builtin "len") [.list ds] Q := fun I H vs s r R k => by
  obtain ⟨v, rfl, r'⟩ := kd_one r
  obtain ⟨a, xs, rfl, ha, t⟩ := r'.lst
  rw [← t.len] at q
  exact ⟨_, call_len_seq, a, xs, rfl, .inl (SqL.of (s.lst ha)), k.val s .mkInt q⟩
theorem kd_len_tuple {ds : List D} (q : Q false (.int ds.length)) : KD X (.builtin "len") [.tuple ds] Q := fun I H vs s r R k => by
  obtain ⟨v, rfl, r'⟩ := kd_one r
  obtain ⟨a, xs, rfl, ha, t⟩ := r'.tup
  rw [← t.len] at q
  exact ⟨_, call_len_seq, a, xs, rfl, .inr (SqT.of (s.tup ha)), k.val s .mkInt q⟩
theorem kd_len_str (hz : x.length ≤ sizeLine) (q : Q false (.int x.length)) : KD X (.builtin "len") [.str x] Q := fun I H vs s r R k => by
  obtain ⟨v, rfl, r'⟩ := kd_one r
  rw [r'.str]
  exact ⟨_, call_len_str, x, rfl, hz, k.val s .mkInt q⟩
theorem kd_len_script {ns : List Int} (q : Q false (.int ns.length)) : KD X (.builtin "len") [scriptD ns] Q := fun I H vs s r R k => by
  obtain ⟨v, rfl, r'⟩ := kd_one r
  obtain ⟨a, rfl, ha⟩ := r'.script
  refine ⟨_, call_len_seq, a, _, rfl, .inl (ha.sq s), ?_⟩
  rw [List.length_map]
  exact k.val s .mkInt q
theorem kd_all {bs : List Bool} (hc : X.calm = true) (q : Q false (.bool (bs.all id))) : KD X (.builtin "all") [.list (bs.map .bool)] Q := fun I H vs s r R k => by
  obtain ⟨v, rfl, r'⟩ := kd_one r
  obtain ⟨a, xs, rfl, ha, t⟩ := r'.lst
  rw [DqAll.bls t] at ha
  exact ⟨_, cr_all hc, a, bs, rfl, SqL.of (s.lst ha), k.val s .mkBl q⟩
theorem kd_any {bs : List Bool} (hc : X.calm = true) (q : Q false (.bool (bs.any id))) : KD X (.builtin "any") [.list (bs.map .bool)] Q := fun I H vs s r R k => by
  obtain ⟨v, rfl, r'⟩ := kd_one r
  obtain ⟨a, xs, rfl, ha, t⟩ := r'.lst
  rw [DqAll.bls t] at ha
  exact ⟨_, cr_any hc, a, bs, rfl, SqL.of (s.lst ha), k.val s .mkBl q⟩
theorem kd_sum {ns : List Int} (hc : X.calm = true) (q : Q false (.int ns.sum)) : KD X (.builtin "sum") [.list (ns.map .int)] Q := fun I H vs s r R k => by
  obtain ⟨v, rfl, r'⟩ := kd_one r
  obtain ⟨a, xs, rfl, ha, t⟩ := r'.lst
  rw [DqAll.ints t] at ha
  exact ⟨_, cr_sum hc, a, ns, rfl, SqL.of (s.lst ha), k.val s .mkInt q⟩
theorem kd_int_bool {b : Bool} (q : Q false (.int (if b then 1 else 0))) : KD X (.type "int") [.bool b] Q := fun I H vs s r R k => by
  obtain ⟨v, rfl, r'⟩ := kd_one r
  rw [r'.bl]
  exact ⟨_, call_int1, .inr ⟨b, rfl, k.val s .mkInt q⟩⟩
theorem kd_list_list {ds : List D} (q : Q true (.list ds)) : KD X (.type "list") [.list ds] Q := fun I H vs s r R k => by
  obtain ⟨v, rfl, r'⟩ := kd_one r
  obtain ⟨a, xs, rfl, ha, t⟩ := r'.lst
  exact ⟨_, call_list_of, a, xs, rfl, .inl (SqL.of (s.lst ha)), fun p n => k.lst s t q n⟩
theorem kd_list_tuple {ds : List D} (q : Q true (.list ds)) : KD X (.type "list") [.tuple ds] Q := fun I H vs s r R k => by
  obtain ⟨v, rfl, r'⟩ := kd_one r
  obtain ⟨a, xs, rfl, ha, t⟩ := r'.tup
  exact ⟨_, call_list_of, a, xs, rfl, .inr (SqT.of (s.tup ha)), fun p n => k.lst s t q n⟩
theorem kd_tuple_list {ds : List D} (q : Q false (.tuple ds)) : KD X (.type "tuple") [.list ds] Q := fun I H vs s r R k => by
  obtain ⟨v, rfl, r'⟩ := kd_one r
  obtain ⟨a, xs, rfl, ha, t⟩ := r'.lst
  exact ⟨_, call_tuple_of, a, xs, rfl, .inl ⟨SqL.of (s.lst ha), fun p n => k.tup s t q n⟩⟩
theorem kd_tuple_tuple {ds : List D} (q : Q false (.tuple ds)) : KD X (.type "tuple") [.tuple ds] Q := fun I H vs s r R k => by
  obtain ⟨v, rfl, r'⟩ := kd_one r
  obtain ⟨a, xs, e, ha, t⟩ := id r'.tup
  subst e
  exact ⟨_, call_tuple_of, a, xs, rfl, .inr ⟨SqT.of (s.tup ha), k.val s r' q⟩⟩
/-! methods of texts -/
theorem md_startswith (q : Q false (.bool (Txt.startswith x y))) : MD X "str.startswith" x [.str y] Q := fun I H vs s r R k => by
  obtain ⟨v, rfl, r'⟩ := kd_one r
  rw [r'.str]
  exact ⟨_, mt_startswith, x, y, rfl, rfl, k.val s .mkBl q⟩
theorem md_join {ys : List Str} (hz : (ys.map (·.length)).sum + ys.length * x.length ≤ 16777216) (q : Q false (.str (Txt.join x ys))) : MD X "str.join" x [.list (ys.map .str)] Q := fun I H vs s r R k => by
  obtain ⟨v, rfl, r'⟩ := kd_one r
  obtain ⟨a, xs, rfl, ha, t⟩ := r'.lst
  rw [DqAll.strs t] at ha
  exact ⟨_, mt_join, x, a, ys, rfl, rfl, .inl (SqL.of (s.lst ha)), hz, k.val s .mkStr q⟩
end
/-! isinstance -/
def tyD : D → String
  | .none => "NoneType"
  | .bool _ => "bool"
  | .int _ => "int"
  | .str _ => "str"
  | .list _ => "list"
  | .tuple _ => "tuple"
  | .dict _ => "dict"
def isTy (T : String) : D → Bool
  | .bool _ => T == "bool" || T == "int"
  | d => tyD d == T
theorem Rv.tyX {K : PySem.W.Frag} {I H : Hp} {v : V} {d : D} (s : Sub I H) (r : Rv K I v d) (n : nd d = true) : TyX K H v (.type (tyD d)) := by
  cases r.dp n with
  | non => exact .base .non
  | bl b => exact .base (.bl b)
  | int i => exact .base (.int i)
  | str z => exact .base (.str z)
  | lst h t => exact .base (.lst (s.lst h))
  | tup h t => exact .base (.tup (s.tup h))
theorem kit_isTy {K : PySem.W.Frag} {T : String} (hT : T = "int" ∨ T = "bool" ∨ T = "str" ∨ T = "tuple" ∨ T = "list") (d : D) (n : nd d = true) : PySem.W.kitOne K (.type (tyD d)) (.type T) = some (isTy T d) := by
  refine kit_ty ?_
  rcases hT with rfl | rfl | rfl | rfl | rfl <;> cases d <;> first | (cases n; done) | (simp only [tyD, isTy]; decide +kernel)
section
variable {X : Cx} {m : Bool} {ρ : List Sl} {W : Wx} {a : Expr} {pos p tp : Pos} {Q : Bool → D → List Sl → Prop}
theorem em_isi {T : String} (hT : T = "int" ∨ T = "bool" ∨ T = "str" ∨ T = "tuple" ∨ T = "list") {x : Str} (hm : X.mg "isinstance" = none) (hmT : X.mg x = none) (hx : bootBuiltins x = some (.type T)) (h : EM m X a ρ W fun _ d ρ1 => nd d = true ∧ Q false (.bool (isTy T d)) ρ1)
    (hg : Gl X "isinstance" := by rfl) (hgT : Gl X x := by rfl) (hn : x ≠ "__name__" := by decide) (hdb : (x == ("__debug__" : Str)) = false := by decide)
    (he : starEach [a, .Name x tp] X.env = (false, eval a X.env) :: starEach [.Name x tp] X.env := by rfl) (he2 : starEach [.Name x tp] X.env = (false, eval (.Name x tp) X.env) :: starEach [] X.env := by rfl) (hpl : (backTo pos (starEach [.Name x tp] X.env)).any (·.1) = false := by rfl) :
    EM m X (.Call (.Name "isinstance" p) [a, .Name x tp] [] pos) ρ W Q := fun σ I H ok xk R f =>
  ⟨_, pe_callB call_isi hg hm boot_isinstance (pa_cons pe_w (pa_cons (pe_bltn (v := .ty T) hgT hmT hx rfl hn hdb) pa_nil he2) he) (by decide) (by decide) he hpl, h.run ok xk fun v _ d ρ1 I1 H1 g1 r1 ⟨n, q⟩ =>
    ⟨v, .ty T, _, _, _, rfl, .ty T, r1.tyX (g1.env ok).sub n, kit_isTy hT d n, f _ false _ ρ1 I1 H1 g1 Rv.mkBl q⟩⟩
end
/-! targets by name -/
section
variable {X : Cx}
theorem pg_nm {K : PySem.W.Frag} {i : Nat} {x : Str} {pos : Pos} (hN : X.N.Nodup) (hi : X.N[i]? = some x := by rfl) (hx : Loc X.env.scope x := by first | exact Or.inl rfl | exact Or.inr rfl) (hf : X.fn x = true ∨ X.env.scope.names.lookup x = some .local := by first | exact .inl rfl | exact .inr rfl | assumption) : PG X (.Name x pos) (Tg.g K (.nm i)) := by
  unfold Tg.g
  exact pg_name hN hi hx hf
theorem pgs_0 {K : PySem.W.Frag} : PGs X [] (Tg.gs K []) := by
  unfold Tg.gs
  exact pgs_nil
theorem pgs_1 {K : PySem.W.Frag} {e : Expr} {es : List Expr} {t : Tg} {ts : List Tg} (h : PG X e (Tg.g K t)) (h2 : PGs X es (Tg.gs K ts)) (hs : (assignEach (e :: es) X.env).map (·.2) = assign e X.env :: (assignEach es X.env).map (·.2) := by rfl) : PGs X (e :: es) (Tg.gs K (t :: ts)) := by
  unfold Tg.gs
  exact pgs_cons h h2 hs
theorem pg_tp {es : List Expr} {k : Nat} {ts : List Tg} {pos : Pos} (hc : X.calm = true) (h : PGs X es (Tg.gs X.K ts)) (hn : (assignEach es X.env).length = ts.length := by rfl) (hst : (assignEach es X.env).findIdx? (·.1) = none := by rfl) : PG X (.Tuple es k pos) (Tg.g X.K (.tp ts)) := by
  unfold Tg.g
  exact pg_tup hc h hn hst
end
end Tt

namespace Tt
open PySem PySem.Spec PyProof.Rows L2

/-! ### lists and dicts of one's own -/
theorem EnvOk.mut {K : PySem.W.Frag} {I H : Hp} {σ : L2.St} {ρ : List Sl} {i : Nat} {q : Addr} {mo mo' : MO} {o : HO} (ok : EnvOk K I H σ ρ) (h : ρ[i]? = some (.mo q mo)) (ho : mo'.φ K I o) : Go false K σ ρ I H (ρ.set i (.mo q mo')) I (upd H q o) := by
  obtain ⟨v, hv, rfl, u, hu, _⟩ := ok.at h (fun z => nomatch z)
  have hl : i < ρ.length := (List.getElem?_eq_some_iff.mp h).1
  have fi : ft ρ i = [q] := ft_at h
  have qi : q ∈ ft ρ i := by rw [fi]; exact List.mem_singleton.mpr rfl
  have nI : I q = none := ok.out i q qi
  have fs : ∀ j, ft (ρ.set i (.mo q mo')) j = ft ρ j := fun j => by
    rw [ft_set]
    split
    · rename_i z
      rw [← z.1, fi]
      rfl
    · rfl
  have mts : ∀ a, Mt (ρ.set i (.mo q mo')) a → Mt ρ a := fun a ⟨j, hj⟩ => ⟨j, by rw [← fs j]; exact hj⟩
  refine ⟨⟨by rw [List.length_set]; exact ok.len, fun j s e => ?_, fun j => by rw [fs]; exact ok.nd j, fun j k a h1 h2 => ok.dj j k a (by rw [← fs j]; exact h1) (by rw [← fs k]; exact h2), fun j a h1 => ok.out j a (by rw [← fs j]; exact h1), fun a u' e => ?_⟩, ⟨Same.refl I, fun a u' e n => ?_, fun _ _ _ n _ => n, fun a m => .inl (mts a m), fun a u' e => ?_⟩, mts⟩
  · by_cases z : i = j
    · subst z
      rw [List.getElem?_set_self hl] at e
      cases e
      rw [hv]
      exact ⟨rfl, o, upd_same, ho⟩
    · rw [List.getElem?_set_ne z] at e
      refine (ok.ok j s e).grow (Same.refl I) fun a u' ha e2 => ?_
      rw [upd_ne]
      · exact e2
      · intro z2
        subst z2
        exact z (ok.dj i j a qi (by rw [ft_at e]; exact ha))
  · rw [upd_ne (ne_of_none e nI)]
    exact ok.sub a u' e
  · rw [upd_ne]
    · exact e
    · intro z
      subst z
      exact n ⟨i, qi⟩
  · by_cases z : a = q
    · subst z
      exact ⟨o, upd_same⟩
    · exact ⟨u', by rw [upd_ne z]; exact e⟩
/-- an object that one holds alone told of as data from now on -/
def Fz (mo : MO) (d : D) : Prop := ∀ K I o p, I p = none → mo.φ K I o → Rv K (upd I p o) (.ref p) d
theorem fz_lst (ds : List D) : Fz (.lst ds) (.list ds) := fun K I o p n ⟨xs, e, t⟩ => by
  subst e
  exact Rv.mkL upd_same (DqAll.same (fun a u e => by rw [upd_ne (ne_of_none e n)]; exact e) t)
theorem EnvOk.freeze {K : PySem.W.Frag} {I H : Hp} {σ : L2.St} {ρ : List Sl} {i : Nat} {q : Addr} {mo : MO} {d : D} (ok : EnvOk K I H σ ρ) (h : ρ[i]? = some (.mo q mo)) (f : Fz mo d) :
    ∃ J, Same I J ∧ EnvOk K J H σ (ρ.set i (.va d)) ∧ (∀ a, J a ≠ none → I a = none → a = q) ∧ J q ≠ none := by
  obtain ⟨v, hv, rfl, u, hu, hφ⟩ := ok.at h (fun z => nomatch z)
  have hl : i < ρ.length := (List.getElem?_eq_some_iff.mp h).1
  have fi : ft ρ i = [q] := ft_at h
  have qi : q ∈ ft ρ i := by rw [fi]; exact List.mem_singleton.mpr rfl
  have nI : I q = none := ok.out i q qi
  have ij : Same I (upd I q u) := fun a o e => by rw [upd_ne (ne_of_none e nI)]; exact e
  have fs : ∀ j a, a ∈ ft (ρ.set i (.va d)) j → a ∈ ft ρ j ∧ j ≠ i := fun j a hj => by
    rw [ft_set] at hj
    split at hj
    · cases hj
    · rename_i z
      refine ⟨hj, fun e => ?_⟩
      subst e
      exact z ⟨rfl, hl⟩
  refine ⟨upd I q u, ij, ⟨by rw [List.length_set]; exact ok.len, fun j s e => ?_, fun j => ?_, fun j k a h1 h2 => ok.dj j k a (fs j a h1).1 (fs k a h2).1, fun j a h1 => ?_, fun a o e => ?_⟩, fun a n1 n2 => ?_, by rw [upd_same]; exact fun z => nomatch z⟩
  · by_cases z : i = j
    · subst z
      rw [List.getElem?_set_self hl] at e
      cases e
      rw [hv]
      exact f K I u q nI hφ
    · rw [List.getElem?_set_ne z] at e
      exact (ok.ok j s e).grow ij fun _ _ _ e => e
  · rw [ft_set]
    split
    · exact List.nodup_nil
    · exact ok.nd j
  · obtain ⟨m, ne⟩ := fs j a h1
    rw [upd_ne (fun z => ne (ok.dj j i a m (by rw [z]; exact qi)))]
    exact ok.out j a m
  · by_cases z : a = q
    · subst z
      rw [upd_same] at e
      cases e
      exact .inl hu
    · rw [upd_ne z] at e
      exact ok.sub a o e
  · apply Decidable.byContradiction
    intro z
    rw [upd_ne z] at n1
    exact n1 n2
/-- what holds no address -/
def flat : D → Bool
  | .none | .bool _ | .int _ | .str _ => true
  | _ => false
theorem Rv.flat {K : PySem.W.Frag} {I J : Hp} {v : V} {d : D} (r : Rv K I v d) (f : flat d = true) : Rv K J v d := by
  rcases r.is with h | ⟨a, ks, _, rfl, rfl, _⟩ | ⟨a, ns, rfl, rfl, _⟩
  · cases h with
    | non => exact .mkNon
    | bl b => exact .mkBl
    | int i => exact .mkInt
    | str z => exact .mkStr
    | lst _ _ => cases f
    | tup _ _ => cases f
  · cases f
  · cases f
section
variable {X : Cx} {m : Bool} {ρ ρ1 : List Sl} {W : Wx} {a b c e : Expr} {es : List Expr} {pos p : Pos} {σ : L2.St} {I H I1 H1 : Hp} {E : DE} {Q : Bool → D → List Sl → Prop} {ss : List Stmt} {st : Stmt}
/-- from here on it is data -/
theorem sd_freeze (i : Nat) {q : Addr} {mo : MO} {d : D} (h0 : ρ[i]? = some (.mo q mo)) (f : Fz mo d) (h : SD X ss (ρ.set i (.va d)) W E) : SD X ss ρ W E := fun σ I H ok xk T k => by
  obtain ⟨J, ij, ok', hq, _⟩ := ok.freeze h0 f
  have mts : ∀ a, Mt (ρ.set i (.va d)) a → Mt ρ a := fun a m => (mt_set m).elim id fun z => by cases z
  have qm : Mt ρ q := ⟨i, by rw [ft_at h0]; exact List.mem_singleton.mpr rfl⟩
  have st : Step I H (Mt ρ) J H (Mt (ρ.set i (.va d))) := ⟨ij, fun _ _ e _ => e, fun a o e n nm => by
    cases z : J a with
    | none => rfl
    | some u => exact absurd (by rw [hq a (by rw [z]; exact fun z => nomatch z) n]; exact qm) nm, fun a m => .inl (mts a m), fun a o e => ⟨o, e⟩⟩
  exact h σ J H ok' (xk.step st) T (k.step st)
/-- looked at as data for a while; what comes of it holds no address -/
theorem em_view (i : Nat) {q : Addr} {mo : MO} {d : D} (h0 : ρ[i]? = some (.mo q mo)) (f : Fz mo d) (h : EM true X e (ρ.set i (.va d)) W fun _ x _ => flat x = true ∧ Q false x ρ) : EM m X e ρ W Q := fun σ I H ok xk R k => by
  obtain ⟨J, ij, ok', hq, _⟩ := ok.freeze h0 f
  have mts : ∀ a, Mt (ρ.set i (.va d)) a → Mt ρ a := fun a m => (mt_set m).elim id fun z => by cases z
  have qm : Mt ρ q := ⟨i, by rw [ft_at h0]; exact List.mem_singleton.mpr rfl⟩
  have st : Step I H (Mt ρ) J H (Mt (ρ.set i (.va d))) := ⟨ij, fun _ _ e _ => e, fun a o e n nm => by
    cases z : J a with
    | none => rfl
    | some u => exact absurd (by rw [hq a (by rw [z]; exact fun z => nomatch z) n]; exact qm) nm, fun a m => .inl (mts a m), fun a o e => ⟨o, e⟩⟩
  refine EM.run h ok' (xk.step st) fun v o x ρ' I' H' g r ⟨fx, q⟩ => ?_
  obtain ⟨_, g⟩ := g
  exact k v false x ρ I H' (Go.of ok ⟨Same.refl I, g.hh, Sub.same (ij.trans g.ii) g.sub, fun _ _ _ n => n⟩) (r.flat fx) q
theorem tm_view (i : Nat) {q : Addr} {mo : MO} {d : D} {QT : Bool → List Sl → Prop} (h0 : ρ[i]? = some (.mo q mo)) (f : Fz mo d) (h : TM true X e (ρ.set i (.va d)) W fun x _ => QT x ρ) : TM m X e ρ W QT := fun σ I H ok xk R k => by
  obtain ⟨J, ij, ok', hq, _⟩ := ok.freeze h0 f
  have mts : ∀ a, Mt (ρ.set i (.va d)) a → Mt ρ a := fun a m => (mt_set m).elim id fun z => by cases z
  have qm : Mt ρ q := ⟨i, by rw [ft_at h0]; exact List.mem_singleton.mpr rfl⟩
  have st : Step I H (Mt ρ) J H (Mt (ρ.set i (.va d))) := ⟨ij, fun _ _ e _ => e, fun a o e n nm => by
    cases z : J a with
    | none => rfl
    | some u => exact absurd (by rw [hq a (by rw [z]; exact fun z => nomatch z) n]; exact qm) nm, fun a m => .inl (mts a m), fun a o e => ⟨o, e⟩⟩
  refine h σ J H ok' (xk.step st) R fun x ρ' I' H' g q => ?_
  obtain ⟨_, g⟩ := g
  exact k x ρ I H' (Go.of ok ⟨Same.refl I, g.hh, Sub.same (ij.trans g.ii) g.sub, fun _ _ _ n => n⟩) q
/-- the name of a list of one's own -/
theorem own_at {i : Nat} {q : Addr} {ds : List D} (ok : EnvOk X.K I H σ ρ) (h0 : ρ[i]? = some (.mo q (.lst ds))) : ∃ xs, σ[i]? = some (some (.ref q)) ∧ H q = some (.lst xs) ∧ DqAll I xs ds := by
  obtain ⟨v, hv, rfl, u, hu, xs, rfl, t⟩ := ok.at h0 (fun z => nomatch z)
  exact ⟨xs, hv, hu, t⟩
/-- xs[k], an item of a list of one's own -/
theorem em_ixOwn (i : Nat) {x : Str} {q : Addr} {ds : List D} {p' : Pos} (h0 : ρ[i]? = some (.mo q (.lst ds))) (hs : PlainIx b) (h : EM m X b ρ W fun _ y ρ2 => ∃ k ds' d, y = .int k ∧ ρ2[i]? = some (.mo q (.lst ds')) ∧ atI ds' k = some d ∧ Q false d ρ2) (hN : X.N[i]? = some x := by rfl) (hv : Vis X.env.scope x := by first | exact Or.inl rfl | exact Or.inr (Or.inl rfl) | exact Or.inr (Or.inr rfl))
    (hd : (x == ("__debug__" : Str)) = false := by decide) (hcd : (x == ("__classdict__" : Str)) = false := by decide) : EM m X (.Subscript (.Name x p') b pos) ρ W Q := fun σ I H ok xk R f => by
  obtain ⟨xs, hσ, _, _⟩ := own_at ok h0
  refine ⟨_, pe_ix ix_list (pe_var hN hv hd hcd) pe_w hs, _, hσ, ?_⟩
  refine EM.run h ok xk fun v _ y ρ2 I2 H2 g2 r2 ⟨k, ds', d, e, h2, hd, q2⟩ => ?_
  subst e
  obtain ⟨xs', _, hq, t⟩ := own_at (g2.env ok) h2
  obtain ⟨z, hz, rz⟩ := t.atI hd
  rw [r2.int]
  exact ⟨q, xs', k, z, rfl, rfl, SqL.of hq, hz, f z false d ρ2 I2 H2 g2 ⟨.inl rz⟩ q2⟩
theorem tyL {K : PySem.W.Frag} {H : Hp} {q : Addr} {xs : List V} (h : H q = some (.lst xs)) : tyV K "list" (.ref q) H := .inl ⟨rfl, xs, SqL.of h⟩
/-- xs.append(e) -/
theorem em_append (i : Nat) {x : Str} {q : Addr} {ds : List D} {p' apos cpos : Pos} (h0 : ρ[i]? = some (.mo q (.lst ds)))
    (h : EM false X e ρ W fun _ y ρ2 => ∃ ds', nd y = true ∧ ρ2[i]? = some (.mo q (.lst ds')) ∧ ds'.length < sizeLine ∧ Q false .none (ρ2.set i (.mo q (.lst (ds' ++ [y]))))) (hN : X.N[i]? = some x := by rfl) (hv : Vis X.env.scope x := by first | exact Or.inl rfl | exact Or.inr (Or.inl rfl) | exact Or.inr (Or.inr rfl))
    (hd : (x == ("__debug__" : Str)) = false := by decide) (hcd : (x == ("__classdict__" : Str)) = false := by decide)
    (hbase : attributeBase (.Name x p') "append" X.env (eval (.Name x p') X.env) = eval (.Name x p') X.env := by rfl)
    (hfew : ((backTo cpos (starEach (e :: []) X.env)).all (fun x => !x.1) && (backToKw cpos (keywordEach [] X.env)).all (fun x => x.1.isSome)
      && decide ((e :: ([] : List Expr)).length + ([] : List Keyword).length + (if ([] : List Keyword).isEmpty then 0 else 1) < 30)) = true := by rfl)
    (hline : (apos.endLine == cpos.line) = true := by rfl) (hs : starEach [e] X.env = (false, eval e X.env) :: starEach [] X.env := by rfl) (hplain : (backTo cpos (starEach [] X.env)).any (·.1) = false := by rfl) :
    EM false X (.Call (.Attribute (.Name x p') "append" apos) [e] [] cpos) ρ W Q := fun σ I H ok xk R f => by
  obtain ⟨xs, hσ, hH, _⟩ := own_at ok h0
  refine ⟨_, pe_bm PySem.F.plainAttrs_list PySem.F.slot_list_append PySem.F.type_list_append mt_append (pe_var hN hv hd hcd) (pa_cons pe_w pa_nil hs) hbase hfew hline hs hplain, _, hσ, tyL hH, ?_⟩
  refine EM.run h ok xk fun v _ y ρ2 I2 H2 g2 r2 ⟨ds', ny, h2, hl, q2⟩ => ?_
  have ok2 := g2.env ok
  obtain ⟨xs', _, hq, t⟩ := own_at ok2 h2
  have g := ok2.mut (mo' := .lst (ds' ++ [y])) h2 ⟨_, rfl, DqAll.app t (.cons (r2.dp ny) .nil)⟩
  exact ⟨q, xs', v, rfl, rfl, hq, by rw [t.len]; exact hl, f _ false _ _ _ _ (g2.trans g) Rv.mkNon q2⟩
/-- xs.extend(e), e a list -/
theorem em_extend (i : Nat) {x : Str} {q : Addr} {ds : List D} {p' apos cpos : Pos} (h0 : ρ[i]? = some (.mo q (.lst ds)))
    (h : EM false X e ρ W fun _ y ρ2 => ∃ ds' es, y = .list es ∧ ρ2[i]? = some (.mo q (.lst ds')) ∧ ds'.length + es.length ≤ sizeLine ∧ Q false .none (ρ2.set i (.mo q (.lst (ds' ++ es))))) (hN : X.N[i]? = some x := by rfl) (hv : Vis X.env.scope x := by first | exact Or.inl rfl | exact Or.inr (Or.inl rfl) | exact Or.inr (Or.inr rfl))
    (hd : (x == ("__debug__" : Str)) = false := by decide) (hcd : (x == ("__classdict__" : Str)) = false := by decide)
    (hbase : attributeBase (.Name x p') "extend" X.env (eval (.Name x p') X.env) = eval (.Name x p') X.env := by rfl)
    (hfew : ((backTo cpos (starEach (e :: []) X.env)).all (fun x => !x.1) && (backToKw cpos (keywordEach [] X.env)).all (fun x => x.1.isSome)
      && decide ((e :: ([] : List Expr)).length + ([] : List Keyword).length + (if ([] : List Keyword).isEmpty then 0 else 1) < 30)) = true := by rfl)
    (hline : (apos.endLine == cpos.line) = true := by rfl) (hs : starEach [e] X.env = (false, eval e X.env) :: starEach [] X.env := by rfl) (hplain : (backTo cpos (starEach [] X.env)).any (·.1) = false := by rfl) :
    EM false X (.Call (.Attribute (.Name x p') "extend" apos) [e] [] cpos) ρ W Q := fun σ I H ok xk R f => by
  obtain ⟨xs, hσ, hH, _⟩ := own_at ok h0
  refine ⟨_, pe_bm PySem.F.plainAttrs_list PySem.F.slot_list_extend PySem.F.type_list_extend mt_extend (pe_var hN hv hd hcd) (pa_cons pe_w pa_nil hs) hbase hfew hline hs hplain, _, hσ, tyL hH, ?_⟩
  refine EM.run h ok xk fun v _ y ρ2 I2 H2 g2 r2 ⟨ds', es, ey, h2, hl, q2⟩ => ?_
  subst ey
  have ok2 := g2.env ok
  obtain ⟨xs', _, hq, t⟩ := own_at ok2 h2
  obtain ⟨b, zs, rfl, hb, t'⟩ := r2.lst
  have g := ok2.mut (mo' := .lst (ds' ++ es)) h2 ⟨_, rfl, DqAll.app t t'⟩
  exact ⟨q, b, xs', zs, rfl, rfl, hq, ok2.sub.lst hb, by rw [t.len, t'.len]; exact hl, f _ false _ _ _ _ (g2.trans g) Rv.mkNon q2⟩
/-- xs.pop() -/
theorem em_pop (i : Nat) {x : Str} {q : Addr} {ds : List D} {d : D} {p' apos cpos : Pos} (h0 : ρ[i]? = some (.mo q (.lst (ds ++ [d])))) (h : Q false d (ρ.set i (.mo q (.lst ds)))) (hN : X.N[i]? = some x := by rfl) (hv : Vis X.env.scope x := by first | exact Or.inl rfl | exact Or.inr (Or.inl rfl) | exact Or.inr (Or.inr rfl))
    (hd : (x == ("__debug__" : Str)) = false := by decide) (hcd : (x == ("__classdict__" : Str)) = false := by decide)
    (hbase : attributeBase (.Name x p') "pop" X.env (eval (.Name x p') X.env) = eval (.Name x p') X.env := by rfl) (hline : (apos.endLine == cpos.line) = true := by rfl) :
    EM false X (.Call (.Attribute (.Name x p') "pop" apos) [] [] cpos) ρ W Q := fun σ I H ok xk R f => by
  obtain ⟨xs, hσ, hH, t⟩ := own_at ok h0
  have el : xs.length = ds.length + 1 := by rw [t.len, List.length_append]; rfl
  obtain ⟨y, hy, ry⟩ := t.get (i := ds.length) (d := d) (by simp)
  have td : DqAll I xs.dropLast ds := by
    have := t.dropLast
    rwa [List.dropLast_concat] at this
  have g := ok.mut (mo' := .lst ds) h0 ⟨_, rfl, td⟩
  refine ⟨_, pe_bm0 PySem.F.plainAttrs_list PySem.F.slot_list_pop PySem.F.type_list_pop mt_pop (pe_var hN hv hd hcd) hbase hline, _, hσ, tyL hH, q, xs, y, rfl, rfl, hH, by rw [el]; exact hy, ?_⟩
  exact f y false d _ _ _ g ⟨.inl ry⟩ h
/-- xs.pop(k) -/
theorem em_popAt (i : Nat) {x : Str} {q : Addr} {ds : List D} {p' apos cpos : Pos} (h0 : ρ[i]? = some (.mo q (.lst ds)))
    (h : EM false X e ρ W fun _ y ρ2 => ∃ ds' k d, y = .int (k : Nat) ∧ ρ2[i]? = some (.mo q (.lst ds')) ∧ ds'.length ≤ sizeLine ∧ ds'[k]? = some d ∧ Q false d (ρ2.set i (.mo q (.lst (ds'.eraseIdx k))))) (hN : X.N[i]? = some x := by rfl) (hv : Vis X.env.scope x := by first | exact Or.inl rfl | exact Or.inr (Or.inl rfl) | exact Or.inr (Or.inr rfl))
    (hd : (x == ("__debug__" : Str)) = false := by decide) (hcd : (x == ("__classdict__" : Str)) = false := by decide)
    (hbase : attributeBase (.Name x p') "pop" X.env (eval (.Name x p') X.env) = eval (.Name x p') X.env := by rfl)
    (hfew : ((backTo cpos (starEach (e :: []) X.env)).all (fun x => !x.1) && (backToKw cpos (keywordEach [] X.env)).all (fun x => x.1.isSome)
      && decide ((e :: ([] : List Expr)).length + ([] : List Keyword).length + (if ([] : List Keyword).isEmpty then 0 else 1) < 30)) = true := by rfl)
    (hline : (apos.endLine == cpos.line) = true := by rfl) (hs : starEach [e] X.env = (false, eval e X.env) :: starEach [] X.env := by rfl) (hplain : (backTo cpos (starEach [] X.env)).any (·.1) = false := by rfl) :
    EM false X (.Call (.Attribute (.Name x p') "pop" apos) [e] [] cpos) ρ W Q := fun σ I H ok xk R f => by
  obtain ⟨xs, hσ, hH, _⟩ := own_at ok h0
  refine ⟨_, pe_bm PySem.F.plainAttrs_list PySem.F.slot_list_pop PySem.F.type_list_pop mt_popAt (pe_var hN hv hd hcd) (pa_cons pe_w pa_nil hs) hbase hfew hline hs hplain, _, hσ, tyL hH, ?_⟩
  refine EM.run h ok xk fun v _ y ρ2 I2 H2 g2 r2 ⟨ds', k, d, ey, h2, hz, hk, q2⟩ => ?_
  subst ey
  have ok2 := g2.env ok
  obtain ⟨xs', _, hq, t⟩ := own_at ok2 h2
  obtain ⟨z, hz', rz⟩ := t.get hk
  have hl : k < ds'.length := (List.getElem?_eq_some_iff.mp hk).1
  have g := ok2.mut (mo' := .lst (ds'.eraseIdx k)) h2 ⟨_, rfl, t.erase k⟩
  rw [r2.int]
  have hz2 := hz
  rw [sizeLine_eq] at hz2
  have sx : seqIndex? (k : Int) xs'.length = some k := (atI_get (xs := xs') (i := (k : Int)) (v := z) (atI_nat hz')).elim fun j hj => by
    have e2 : j = k := by
      have h3 := (ixN_seq (n := xs'.length) (i := (k : Int)) (j := k) (by unfold ixN; rw [if_pos (by omega), if_pos (by rw [t.len]; omega)]; simp)).1
      rw [hj.1] at h3
      exact Option.some.inj h3
    rw [← e2]
    rw [e2]
    rw [e2] at hj
    exact hj.1
  exact ⟨q, xs', (k : Int), k, z, rfl, rfl, hq, by omega, by omega, sx, hz', f z false d _ _ _ (g2.trans g) ⟨.inl rz⟩ q2⟩
/-- xs[k] = e -/
theorem s1_setItem (i : Nat) {x : Str} {q : Addr} {ds : List D} {p' p2 : Pos} (h0 : ρ[i]? = some (.mo q (.lst ds)))
    (h : EM false X e ρ W fun _ y ρ2 => nd y = true ∧ ∃ ds2, ρ2[i]? = some (.mo q (.lst ds2)) ∧ EM false X b ρ2 W fun _ kk ρ3 => ∃ ds3 k, kk = .int (k : Nat) ∧ ρ3[i]? = some (.mo q (.lst ds3)) ∧ k < ds3.length ∧ E.nx (ρ3.set i (.mo q (.lst (ds3.set k y))))) (hN : X.N[i]? = some x := by rfl) (hv : Vis X.env.scope x := by first | exact Or.inl rfl | exact Or.inr (Or.inl rfl) | exact Or.inr (Or.inr rfl))
    (hd : (x == ("__debug__" : Str)) = false := by decide) (hcd : (x == ("__classdict__" : Str)) = false := by decide)
    (ha : ∀ v, assign (.Subscript (.Name x p') b p2) X.env v = (do
      let ov ← holding [v] (eval (.Name x p') X.env)
      let iv ← holding [v, ov] (eval b X.env)
      standAt p2
      holding [v, ov, iv] (setItem ov iv v)
      release [v, ov, iv] []) := by intro _; rfl)
    (hs : swapsWithSole [.Subscript (.Name x p') b p2] e pos.line X.env = pure false := by rfl) (hw : swappedStores [.Subscript (.Name x p') b p2] e X.env = pure none := by rfl) (h1 : List.map (fun x => x.snd) (assignEach [.Subscript (.Name x p') b p2] X.env) = [assign (.Subscript (.Name x p') b p2) X.env] := by rfl) :
    S1 X (.Assign [.Subscript (.Name x p') b p2] e pos) ρ W E := fun σ I H ok xk T k =>
  ⟨_, ps_asg pe_w (pg_sub (pe_var hN hv hd hcd) pe_w set_list ha) hs hw h1, EM.run h ok xk fun v _ y ρ2 I2 H2 g2 r2 ⟨ny, ds2, h2, q2⟩ => by
    have ok2 := g2.env ok
    obtain ⟨xs2, hσ, hH2, _⟩ := own_at ok2 h2
    refine ⟨_, hσ, EM.run q2 ok2 (xk.step g2.step) fun u _ kk ρ3 I3 H3 g3 r3 ⟨ds3, j, ek, h3, hl, q3⟩ => ?_⟩
    subst ek
    have ok3 := g3.env ok2
    obtain ⟨xs3, _, hH3, t3⟩ := own_at ok3 h3
    have g := ok3.mut (mo' := .lst (ds3.set j y)) h3 ⟨_, rfl, t3.set (Dq.same g3.ii (r2.dp ny)) j⟩
    rw [r3.int]
    have gg := (g2.trans g3).trans g
    refine ⟨q, xs3, (j : Int), j, rfl, rfl, hH3, ?_, k.nx _ _ _ _ (gg.env ok) gg.step q3⟩
    unfold ixN
    rw [if_pos (by omega), if_pos (by rw [t3.len]; omega)]
    simp⟩
/-- x op= e, data -/
def PD (X : Cx) (op : Operator) (x y : D) (Q : Bool → D → Prop) : Prop :=
  ∀ I H v u, Sub I H → Rv X.K I v x → Rv X.K I u y → ∀ R : VK, Res X I H Q R → wIp X op v u H R
theorem pd_add_int {i j : Int} {Q : Bool → D → Prop} (q : Q false (.int (i + j))) : PD X .Add (.int i) (.int j) Q := fun I H v u s rv ru R k => by
  rw [rv.int, ru.int]
  exact ⟨_, ip_add, i, j, rfl, rfl, k.val s .mkInt q⟩
theorem ip_str : PIp X .Add (fun x y H Q => ∃ i j, x = .str i ∧ y = .str j ∧ i.length + j.length ≤ sizeLine ∧ Q (.str (i ++ j)) H) := fun pins s σ H x y v u Q I rx ry h => iop_add_str pins s σ H x y v u Q I rx ry h
theorem pd_add_str {i j : Str} {Q : Bool → D → Prop} (c : i.length + j.length ≤ sizeLine) (q : Q false (.str (i ++ j))) : PD X .Add (.str i) (.str j) Q := fun I H v u s rv ru R k => by
  rw [rv.str, ru.str]
  exact ⟨_, ip_str, i, j, rfl, rfl, c, k.val s .mkStr q⟩
theorem s1_aug (i : Nat) {x : Str} {op : Operator} {d : D} {pos' : Pos} (hNd : X.N.Nodup) (h0 : ρ[i]? = some (.va d)) (h : EM false X e ρ W fun _ y ρ2 => PD X op d y fun _ z => E.nx (ρ2.set i (.va z))) (hi : X.N[i]? = some x := by rfl) (hx : Loc X.env.scope x := by first | exact Or.inl rfl | exact Or.inr rfl)
    (hf : X.fn x = true ∨ X.env.scope.names.lookup x = some .local := by first | exact .inl rfl | exact .inr rfl | assumption) : S1 X (.AugAssign (.Name x pos') op e pos) ρ W E := fun σ I H ok xk T k => by
  obtain ⟨v, hv, r⟩ := ok.at h0 (fun z => nomatch z)
  refine ⟨_, ps_aug hNd hi hx pe_w ip_w hf, v, hv, EM.run h ok xk fun u _ y ρ2 I2 H2 g2 r2 q2 => ?_⟩
  refine q2 I2 H2 v u (g2.env ok).sub (Rv.same g2.ii r) r2 _ fun z o d' I3 H3 g3 r3 q3 => ?_
  have g := g2.grow ok g3
  obtain ⟨J, g', r'⟩ := (r3.back g2.nn).data g ok
  obtain ⟨ok', st'⟩ := NewOk.put (i := i) (s := .va d') (NewOk.of_data r') ok g'
  exact k.nx _ _ _ _ ok' st' q3
end
end Tt

namespace Tt
open PySem PySem.Spec PyProof.Rows L2
theorem join0 (ys : List (List Nat)) : Txt.join (S []) (ys.map S) = S ys.flatten := by
  rw [TL.join_eq]
  induction ys with
  | nil => rfl
  | cons x r ih =>
    cases r with
    | nil =>
      show S x = S ([x] : List (List Nat)).flatten
      simp
    | cons y r =>
      show S x ++ S [] ++ Str.join (S []) ((y :: r).map S) = _
      rw [ih, S_app, S_app]
      simp
theorem startswith_S (a b : List Nat) : Txt.startswith (S a) (S b) = b.isPrefixOf a := by
  unfold Txt.startswith
  rw [PySem.StrLaws.subAt_eq]
  have e1 : (S a).length = a.length := S_len a
  have e2 : (S b).length = b.length := S_len b
  rw [e1, e2]
  have e3 : (S a).cps.toList = a := by simp [S]
  have e4 : (S b).cps.toList = b := by simp [S]
  rw [e3, e4, List.drop_zero, Nat.zero_add]
  apply Bool.eq_iff_iff.mpr
  rw [List.isPrefixOf_iff_prefix, Bool.and_eq_true, decide_eq_true_eq, beq_iff_eq, List.prefix_iff_eq_take]
  constructor
  · rintro ⟨_, h⟩
    exact h.symm
  · intro h
    refine ⟨?_, h.symm⟩
    have := congrArg List.length h
    rw [List.length_take] at this
    omega
section
variable {X : Cx} {m : Bool} {ρ : List Sl} {W : Wx} {e : Expr} {QO : Option Int → List Sl → Prop}
theorem om_none (h : QO none ρ) : OM m X none ρ W QO := h
theorem om_some (h : EM m X e ρ W fun _ d ρ1 => ∃ i, d = .int i ∧ QO (some i) ρ1) : OM m X (some e) ρ W QO := h
end
/-- the built-ins' names are the built-ins' -/
structure Bare (mg : Str → Option Value) : Prop where
  len : mg "len" = none
  all_ : mg "all" = none
  any_ : mg "any" = none
  sorted_ : mg "sorted" = none
  list_ : mg "list" = none
  tuple_ : mg "tuple" = none
  set_ : mg "set" = none
  range_ : mg "range" = none
  enumerate_ : mg "enumerate" = none
  zip_ : mg "zip" = none
  isinstance_ : mg "isinstance" = none
  int_ : mg "int" = none
  bool_ : mg "bool" = none
  str_ : mg "str" = none
  sum_ : mg "sum" = none
  min_ : mg "min" = none
  max_ : mg "max" = none
theorem small_line {n : Nat} (h : n ≤ 1000000) : n ≤ sizeLine := by
  rw [sizeLine_eq]
  omega
theorem boot_all : bootBuiltins "all" = some (.builtin "all") := by decide +kernel
theorem boot_any : bootBuiltins "any" = some (.builtin "any") := by decide +kernel
theorem boot_sum : bootBuiltins "sum" = some (.builtin "sum") := by decide +kernel
end Tt

namespace Tt
open PySem PySem.Spec PyProof.Rows L2

/-! ### tables -/
section
variable {α β κ : Type} [DecidableEq κ]
def fnd (key : α → κ) (l : List α) (k : κ) : Option α := l.find? fun x => decide (key x = k)
def ptb (key : α → κ) (l : List α) (k : κ) (f : α → α) (new : α) : List α := if (fnd key l k).isSome then l.map fun x => if key x = k then f x else x else l ++ [new]
def RO (R : α → β → Prop) : Option α → Option β → Prop
  | some a, some b => R a b
  | none, none => True
  | _, _ => False
theorem RO.isSome {R : α → β → Prop} {a : Option α} {b : Option β} (h : RO R a b) : a.isSome = b.isSome := by
  cases a <;> cases b <;> first | rfl | exact h.elim
theorem fnd_paired {ka : α → κ} {kb : β → κ} {R : α → β → Prop} (hk : ∀ a b, R a b → ka a = kb b) (k : κ) : ∀ {as : List α} {bs : List β}, Paired R as bs → RO R (fnd ka as k) (fnd kb bs k)
  | _, _, .nil => True.intro
  | _, _, .cons (a := a) (b := b) h t => by
    unfold fnd
    rw [List.find?_cons, List.find?_cons, ← hk a b h]
    by_cases e : ka a = k
    · rw [decide_eq_true e]
      exact h
    · rw [decide_eq_false e]
      exact fnd_paired hk k t
theorem paired_map2 {R R' : α → β → Prop} {f : α → α} {g : β → β} (h : ∀ a b, R a b → R' (f a) (g b)) : ∀ {as : List α} {bs : List β}, Paired R as bs → Paired R' (as.map f) (bs.map g)
  | _, _, .nil => .nil
  | _, _, .cons r t => .cons (h _ _ r) (paired_map2 h t)
theorem ptb_paired {ka : α → κ} {kb : β → κ} {R : α → β → Prop} (hk : ∀ a b, R a b → ka a = kb b) {k : κ} {f : α → α} {g : β → β} {na : α} {nb : β} (hf : ∀ a b, R a b → ka a = k → R (f a) (g b)) (hn : R na nb) {as : List α} {bs : List β} (p : Paired R as bs) : Paired R (ptb ka as k f na) (ptb kb bs k g nb) := by
  have e := (fnd_paired hk k p).isSome
  unfold ptb
  rw [e]
  split
  · refine paired_map2 (fun a b r => ?_) p
    by_cases z : ka a = k
    · rw [if_pos z, if_pos ((hk a b r).symm.trans z)]
      exact hf a b r z
    · rw [if_neg z, if_neg fun w => z ((hk a b r).trans w)]
      exact r
  · exact Paired.snoc p hn
theorem ptb_length {key : α → κ} {l : List α} {k : κ} {f : α → α} {new : α} : (ptb key l k f new).length ≤ l.length + 1 := by
  unfold ptb
  split
  · rw [List.length_map]; omega
  · rw [List.length_append]; simp
theorem fnd_ptb {key : α → κ} {k j : κ} {f : α → α} {new : α} (hf : ∀ a, key (f a) = key a) (hn : key new = k) : ∀ l : List α, fnd key (ptb key l k f new) j = if j = k then ((fnd key l k).map f).or (some new) else fnd key l j := by
  intro l
  have hm : ∀ l : List α, fnd key (l.map fun x => if key x = k then f x else x) j = if j = k then (fnd key l k).map f else fnd key l j := by
    intro l
    induction l with
    | nil => unfold fnd; split <;> rfl
    | cons x l ih =>
      unfold fnd at ih ⊢
      rw [List.map_cons, List.find?_cons]
      by_cases e : key x = k
      · rw [if_pos e, hf]
        by_cases z : j = k
        · rw [if_pos z, List.find?_cons, decide_eq_true e, decide_eq_true (e.trans z.symm)]
          rfl
        · rw [if_neg z, List.find?_cons, decide_eq_false (fun w => z (w.symm.trans e)), ih, if_neg z]
      · rw [if_neg e]
        by_cases w : key x = j
        · rw [decide_eq_true w]
          by_cases z : j = k
          · exact absurd (w.trans z) e
          · rw [if_neg z, List.find?_cons, decide_eq_true w]
        · rw [decide_eq_false w, ih]
          by_cases z : j = k
          · rw [if_pos z, if_pos z, List.find?_cons, decide_eq_false e]
          · rw [if_neg z, if_neg z, List.find?_cons, decide_eq_false w]
  unfold ptb
  cases e : fnd key l k with
  | some a =>
    rw [if_pos (show (some a).isSome = true from rfl), hm, e]
    rfl
  | none =>
    rw [if_neg (by simp)]
    unfold fnd at e ⊢
    rw [List.find?_append]
    by_cases z : j = k
    · subst z
      rw [if_pos rfl, e, List.find?_cons, decide_eq_true hn]
      rfl
    · rw [if_neg z, List.find?_cons, decide_eq_false (fun w => z (w.symm.trans hn)), List.find?_nil, Option.or_none]
theorem nodup_ptb {key : α → κ} {k : κ} {f : α → α} {new : α} (hf : ∀ a, key (f a) = key a) (hn : key new = k) {l : List α} (h : (l.map key).Nodup) : ((ptb key l k f new).map key).Nodup := by
  unfold ptb
  split
  · rename_i e
    have : (l.map fun x => if key x = k then f x else x).map key = l.map key := by
      rw [List.map_map]
      refine List.map_congr_left fun x _ => ?_
      show key (if key x = k then f x else x) = key x
      split
      · exact hf x
      · rfl
    rw [this]
    exact h
  · rename_i e
    rw [List.map_append, List.map_cons, List.map_nil, List.nodup_append]
    refine ⟨h, List.nodup_cons.mpr ⟨List.not_mem_nil, List.nodup_nil⟩, fun a ha b hb => ?_⟩
    rw [List.mem_singleton.mp hb, hn]
    intro z
    subst z
    obtain ⟨x, hx, e2⟩ := List.mem_map.mp ha
    refine e ?_
    unfold fnd
    rw [List.find?_isSome]
    exact ⟨x, hx, decide_eq_true e2⟩
end

/-! ### dicts whose keys are nested tuples -/
/-- an entry: the key, where its tuple stands, the value -/
abbrev EN := NestedKey × Addr × V
def RelN (w : World) (x : EN) (e : DictEntry) : Prop := ∃ u, RelV x.2.2 u ∧ e = ⟨x.1.hash w, .ref x.2.1, u⟩
def ndO (w : World) (a : Addr) (xs : List EN) : HO := .ext fun h => (a == sysModules) = false ∧ xs.length ≤ sizeLine ∧ (xs.map (·.1)).Nodup ∧ ∃ o es ep, h.get? a = some o ∧ o.ExactDict ∧ o.data = .dict es ep ∧ Paired (RelN w) xs es.toList
/-- the keys stand there -/
def NK (H : Hp) (xs : List EN) : Prop := ∀ x ∈ xs, Dq H (.ref x.2.1) x.1.data ∧ x.1.depth ≤ 8
def RelY (x : EN) (y : NestedKey × Addr × Value) : Prop := x.1 = y.1 ∧ x.2.1 = y.2.1 ∧ RelV x.2.2 y.2.2

section
variable {P : Program} {w : World} {H : Hp} {h : Heap}
mutual
theorem dq_nested (ok : HOk P w H h) : ∀ (k : NestedKey) {v : V} {u : Value}, Dq H v k.data → RelV v u → NestedIs h k u
  | .none, v, u, q, r => by
    have q : Dq H v .none := q
    cases q
    cases r
    exact .none
  | .num i, v, u, q, r => by
    have q : Dq H v (.int i) := q
    cases q
    obtain ⟨t, rfl⟩ := r
    exact .int i t
  | .text x, v, u, q, r => by
    have q : Dq H v (.str x) := q
    cases q
    obtain ⟨t, rfl⟩ := r
    exact .text x t
  | .tup ks, v, u, q, r => by
    have q : Dq H v (.tuple (NestedKey.datas ks)) := q
    cases q with
    | tup ha t =>
      cases r
      obtain ⟨_, its, rv, ob, e, hc, n, hd⟩ := ok _ _ ha
      exact .tup e hc hd (by simpa using dqs_nested ok ks t rv)
theorem dqs_nested (ok : HOk P w H h) : ∀ (ks : List NestedKey) {vs : List V} {us : List Value}, DqAll H vs (NestedKey.datas ks) → Vals vs us → NestedAll h ks us
  | [], vs, us, q, r => by
    have q : DqAll H vs [] := q
    cases q
    cases r
    exact .nil
  | k :: ks, vs, us, q, r => by
    have q : DqAll H vs (k.data :: NestedKey.datas ks) := q
    cases q with
    | cons h1 t =>
      cases r with
      | cons r1 rt => exact .cons (dq_nested ok k h1 r1) (dqs_nested ok ks t rt)
end
theorem nd_entries {P : Program} {w : World} : ∀ {xs : List EN} {es : List DictEntry}, Paired (RelN w) xs es → ∃ ys : List (NestedKey × Addr × Value), Paired RelY xs ys ∧ es = ys.map (entryOfKey (nestedKind P w))
  | _, _, .nil => ⟨[], .nil, rfl⟩
  | _, _, .cons (a := x) h t => by
    obtain ⟨ys, p, e⟩ := nd_entries (P := P) t
    obtain ⟨u, r, rfl⟩ := h
    exact ⟨(x.1, x.2.1, u) :: ys, .cons ⟨rfl, rfl, r⟩ p, by rw [e]; rfl⟩
theorem entries_nd : ∀ {xs : List EN} {ys : List (NestedKey × Addr × Value)}, Paired RelY xs ys → Paired (RelN w) xs (ys.map (entryOfKey (nestedKind P w)))
  | _, _, .nil => .nil
  | _, _, .cons (a := x) (b := y) h t => .cons ⟨y.2.2, h.2.2, by rw [h.1, h.2.1]; rfl⟩ (entries_nd t)
theorem relY_keys : ∀ {xs : List EN} {ys : List (NestedKey × Addr × Value)}, Paired RelY xs ys → xs.map (·.1) = ys.map (·.1)
  | _, _, .nil => rfl
  | _, _, .cons h t => by rw [List.map_cons, List.map_cons, h.1, relY_keys t]
theorem relY_mem : ∀ {xs : List EN} {ys : List (NestedKey × Addr × Value)}, Paired RelY xs ys → ∀ y ∈ ys, ∃ x ∈ xs, RelY x y
  | _, _, .nil, _, m => by cases m
  | _, _, .cons h t, y, m => by
    rcases List.mem_cons.mp m with rfl | m
    · exact ⟨_, List.mem_cons_self, h⟩
    · obtain ⟨x, mx, r⟩ := relY_mem t y m
      exact ⟨x, List.mem_cons_of_mem _ mx, r⟩
theorem nd_of {a : Addr} {xs : List EN} (ok : HOk P w H h) (e : H a = some (ndO w a xs)) (k : NK H xs) : (a == sysModules) = false ∧ xs.length ≤ sizeLine ∧ ∃ ys, Paired RelY xs ys ∧ h.DictOfH (nestedKind P w) a ys := by
  obtain ⟨⟨hs, hl, hn, o, es, ep, h1, h2, h3, h4⟩, _⟩ := ok a _ e
  obtain ⟨ys, p, e2⟩ := nd_entries (P := P) h4
  refine ⟨hs, hl, ys, p, o, es, ep, h1, h2, h3, e2, fun y my => ?_, by rw [← relY_keys p]; exact hn⟩
  obtain ⟨x, mx, r⟩ := relY_mem p y my
  obtain ⟨q1, q2⟩ := k x mx
  rw [← r.1, ← r.2.1]
  exact ⟨dq_nested ok _ q1 rfl, q2⟩
theorem nd_obj {a : Addr} {xs : List EN} {ys : List (NestedKey × Addr × Value)} (hs : (a == sysModules) = false) (hl : xs.length ≤ sizeLine) (p : Paired RelY xs ys) (d : h.DictOfH (nestedKind P w) a ys) : ObjOk P w H h a (ndO w a xs) := by
  obtain ⟨o, es, ep, h1, h2, h3, h4, _, h5⟩ := d
  refine ⟨⟨hs, hl, by rw [relY_keys p]; exact h5, o, es, ep, h1, h2, h3, by rw [h4]; exact entries_nd p⟩, ⟨o, h1⟩, ?_⟩
  rintro g1 g2 ⟨q1, q2, q3, o', es', ep', q4, q5⟩ kp
  exact ⟨q1, q2, q3, o', es', ep', kp _ q4, q5⟩
end

def findN (xs : List EN) (k : NestedKey) : Option EN := fnd (·.1) xs k
def storeN (xs : List EN) (k : NestedKey) (b : Addr) (v : V) : List EN := ptb (·.1) xs k (fun x => (x.1, x.2.1, v)) (k, b, v)
theorem findN_at {xs : List EN} {ys : List (NestedKey × Addr × Value)} (p : Paired RelY xs ys) (k : NestedKey) : RO (fun (x : EN) (z : Addr × Value) => RelV x.2.2 z.2) (findN xs k) (atKey ys k) := by
  have q := fnd_paired (ka := fun x : EN => x.1) (kb := fun y : NestedKey × Addr × Value => y.1) (R := RelY) (fun _ _ r => r.1) k p
  unfold findN atKey
  unfold fnd at q ⊢
  cases e1 : xs.find? fun x => decide (x.1 = k) with
  | none =>
    rw [e1] at q
    cases e2 : ys.find? fun y => decide (y.1 = k) with
    | none => exact True.intro
    | some y => rw [e2] at q; exact q.elim
  | some x =>
    rw [e1] at q
    cases e2 : ys.find? fun y => decide (y.1 = k) with
    | none => rw [e2] at q; exact q.elim
    | some y =>
      rw [e2] at q
      exact q.2.2
theorem storeN_paired {xs : List EN} {ys : List (NestedKey × Addr × Value)} (p : Paired RelY xs ys) (k : NestedKey) (b : Addr) {v : V} {u : Value} (r : RelV v u) : Paired RelY (storeN xs k b v) (storedH ys k b u) := by
  have q := ptb_paired (ka := fun x : EN => x.1) (kb := fun y : NestedKey × Addr × Value => y.1) (R := RelY) (fun _ _ r => r.1) (k := k) (f := fun x => (x.1, x.2.1, v)) (g := fun y => (y.1, y.2.1, u)) (na := (k, b, v)) (nb := (k, b, u)) (fun x y r2 _ => ⟨r2.1, r2.2.1, r⟩) ⟨rfl, rfl, r⟩ p
  have e : ptb (fun y : NestedKey × Addr × Value => y.1) ys k (fun y => (y.1, y.2.1, u)) (k, b, u) = storedH ys k b u := by
    unfold ptb storedH fnd atKey
    rw [Option.isSome_map]
    rfl
  rw [e] at q
  exact q

/-! the operations, by values -/
def KeyAt (H : Hp) (b : Addr) (k : NestedKey) : Prop := Dq H (.ref b) k.data ∧ k.depth ≤ 8
def rNin (w : World) : R2 := fun x y H Q => ∃ a b xs k, x = .ref b ∧ y = .ref a ∧ H a = some (ndO w a xs) ∧ NK H xs ∧ KeyAt H b k ∧ Q (.bl (findN xs k).isSome) H
def rNnotin (w : World) : R2 := fun x y H Q => ∃ a b xs k, x = .ref b ∧ y = .ref a ∧ H a = some (ndO w a xs) ∧ NK H xs ∧ KeyAt H b k ∧ Q (.bl (!(findN xs k).isSome)) H
def rNget (w : World) : R2 := fun x y H Q => ∃ a b xs k e, x = .ref a ∧ y = .ref b ∧ H a = some (ndO w a xs) ∧ NK H xs ∧ KeyAt H b k ∧ findN xs k = some e ∧ Q e.2.2 H
def rNset (w : World) : TSet := fun o i v H Q => ∃ a b xs k, o = .ref a ∧ i = .ref b ∧ H a = some (ndO w a xs) ∧ NK H xs ∧ KeyAt H b k ∧ xs.length < sizeLine ∧ Q (upd H a (ndO w a (storeN xs k b v)))
section
variable {X : Cx}
theorem room_n (hu : X.A.units + 64 < cLine) : (nestedKind X.prog X.w).room X.A.in1 := by
  show X.A.in1.units + 8 < cLine
  rw [Around.in1_units]
  omega
theorem key_n {P : Program} {w : World} {H : Hp} {h : Heap} {b : Addr} {k : NestedKey} (ok : HOk P w H h) (q : KeyAt H b k) : (nestedKind P w).is h k b := ⟨dq_nested ok k q.1 rfl, q.2⟩
theorem op_nin (hu : X.A.units + 64 < cLine) : OpR X (compareOp .In) (rNin X.w) := by
  intro pins s σ H x y v u Q I rx ry h
  obtain ⟨a, b, xs, k, rfl, rfl, ha, nk, hk, q⟩ := h
  cases rx
  cases ry
  obtain ⟨hs, hl, ys, p, d⟩ := nd_of I.hok ha nk
  refine wpAny_in_heap (room_n hu) (key_n I.hok hk) hs d ⟨.bl _, H, I.tok _, ?_, q⟩
  rw [(findN_at p k).isSome]
  rfl
theorem op_nnotin (hu : X.A.units + 64 < cLine) : OpR X (compareOp .NotIn) (rNnotin X.w) := by
  intro pins s σ H x y v u Q I rx ry h
  obtain ⟨a, b, xs, k, rfl, rfl, ha, nk, hk, q⟩ := h
  cases rx
  cases ry
  obtain ⟨hs, hl, ys, p, d⟩ := nd_of I.hok ha nk
  refine wpAny_notIn_heap (room_n hu) (key_n I.hok hk) hs d ⟨.bl _, H, I.tok _, ?_, q⟩
  rw [(findN_at p k).isSome]
  rfl
theorem ix_n (hu : X.A.units + 64 < cLine) : IxR X (rNget X.w) := by
  intro value slice pins s σ H x y v u Q I rx ry h hs
  obtain ⟨a, b, xs, k, e, rfl, rfl, ha, nk, hk, he, q⟩ := h
  cases rx
  cases ry
  obtain ⟨hm, hl, ys, p, d⟩ := nd_of I.hok ha nk
  have r := findN_at p k
  rw [he] at r
  cases e2 : atKey ys k with
  | none => rw [e2] at r; exact r.elim
  | some z =>
    rw [e2] at r
    exact subscriptTail_builtinR (x := z.2) d.typeIs PySem.F.slot_dict_getitem.lookup (wpAny_getItem_heap (Q := fun r s' => r = z.2 ∧ EP X pins σ Q r s') (room_n hu) (key_n I.hok hk) d e2 ⟨rfl, e.2.2, H, I.tok _, r, q⟩) hs
theorem set_n (hu : X.A.units + 64 < cLine) : PSet X (rNset X.w) := by
  intro pins s σ H o i v ov iv u Q I ro ri rv h
  obtain ⟨a, b, xs, k, rfl, rfl, ha, nk, hk, hl, q⟩ := h
  cases ro
  cases ri
  obtain ⟨hs, hz, ys, p, d⟩ := nd_of I.hok ha nk
  have el : ys.length ≤ sizeLine := by rw [← Paired.length p]; exact hz
  refine wpAny_setItem_heap (hsz := el) (room_n hu) (key_n I.hok hk) d fun h' d' sb => ?_
  have p' := storeN_paired p k b rv
  have hl' : (storeN xs k b v).length ≤ sizeLine := by
    have : (storeN xs k b v).length ≤ xs.length + 1 := ptb_length
    omega
  exact ⟨_, d_write I (by rw [ha]; exact True.intro) sb (let ⟨o, _, _, h1, _⟩ := d'; ⟨o, h1⟩) (nd_obj hs hl' p' d'), q⟩
def tNew (w : World) : TE := fun _ H Q => ∀ p, H p = none → Q (.ref p) (upd H p (ndO w p []))
theorem pe_nnew {pos : Pos} : PE X (.Dict [] [] pos) (tNew X.w) := ⟨fun pins s σ H Q I h =>
  wpAny_Dict_empty ⟨.ref s.heap.objs.size, _, I.laid (a := s.heap.objs.size) (o := ndO X.w s.heap.objs.size []) (t' := s.toks) (fun _ _ q => Heap.get?_push_of_some _ q) (Nat.le_refl _)
    (nd_obj (beq_eq_false_iff_ne.mpr (Ne.symm (Nat.ne_of_lt I.big))) (Nat.zero_le _) .nil (Heap.DictOfH.new (knd := nestedKind X.prog X.w) s.heap)), rfl, h _ (I.hok.fresh (Nat.le_refl _))⟩⟩
end
end Tt

namespace Tt
open PySem PySem.Spec PyProof.Rows L2

/-! ### dicts with nested tuple keys, told of data -/
def DnR (K : PySem.W.Frag) (I : Hp) (p : NestedKey × D) (x : EN) : Prop := p.1 = x.1 ∧ KeyAt I x.2.1 x.1 ∧ Rv K I x.2.2 p.2
def MO.dn (w : World) (a : Addr) (kvs : List (NestedKey × D)) : MO := ⟨fun K I o => ∃ xs, o = ndO w a xs ∧ Paired (DnR K I) kvs xs, fun e ⟨xs, h, t⟩ => ⟨xs, h, paired_imp (fun _ _ _ r => ⟨r.1, ⟨Dq.same e r.2.1.1, r.2.1.2⟩, Rv.same e r.2.2⟩) t⟩⟩
def valD (kvs : List (NestedKey × D)) (k : NestedKey) : Option D := (fnd (·.1) kvs k).map (·.2)
def putD (kvs : List (NestedKey × D)) (k : NestedKey) (d : D) : List (NestedKey × D) := ptb (·.1) kvs k (fun x => (x.1, d)) (k, d)
theorem valD_putD (kvs : List (NestedKey × D)) (k j : NestedKey) (d : D) : valD (putD kvs k d) j = if j = k then some d else valD kvs j := by
  unfold valD putD
  rw [fnd_ptb (key := fun x : NestedKey × D => x.1) (k := k) (f := fun x => (x.1, d)) (new := (k, d)) (fun _ => rfl) rfl]
  split
  · cases fnd (fun x : NestedKey × D => x.1) kvs k <;> rfl
  · rfl
theorem putD_length {kvs : List (NestedKey × D)} {k : NestedKey} {d : D} : (putD kvs k d).length ≤ kvs.length + 1 := ptb_length
theorem putD_nodup {kvs : List (NestedKey × D)} {k : NestedKey} {d : D} (h : (kvs.map (·.1)).Nodup) : ((putD kvs k d).map (·.1)).Nodup := nodup_ptb (key := fun x : NestedKey × D => x.1) (k := k) (f := fun x => (x.1, d)) (new := (k, d)) (fun _ => rfl) rfl h
theorem valD_nil {k : NestedKey} : valD [] k = none := rfl
theorem putD_new {kvs : List (NestedKey × D)} {k : NestedKey} {d : D} (h : valD kvs k = none) : putD kvs k d = kvs ++ [(k, d)] := by
  unfold putD ptb
  unfold valD at h
  rw [Option.map_eq_none_iff] at h
  rw [h]
  rfl
theorem valD_isSome {kvs : List (NestedKey × D)} {k : NestedKey} : (valD kvs k).isSome = true ↔ k ∈ kvs.map (·.1) := by
  unfold valD fnd
  rw [Option.isSome_map, List.find?_isSome]
  constructor
  · rintro ⟨x, hx, e⟩
    exact List.mem_map.mpr ⟨x, hx, of_decide_eq_true e⟩
  · intro h
    obtain ⟨x, hx, e⟩ := List.mem_map.mp h
    exact ⟨x, hx, decide_eq_true e⟩
section
variable {K : PySem.W.Frag} {I H : Hp}
theorem dn_nk (s : Sub I H) : ∀ {kvs : List (NestedKey × D)} {xs : List EN}, Paired (DnR K I) kvs xs → NK H xs
  | _, _, .nil, _, m => by cases m
  | _, _, .cons h t, x, m => by
    rcases List.mem_cons.mp m with rfl | m
    · exact ⟨Dq.sub s h.2.1.1, h.2.1.2⟩
    · exact dn_nk s t x m
theorem dn_find {kvs : List (NestedKey × D)} {xs : List EN} (p : Paired (DnR K I) kvs xs) (k : NestedKey) : RO (fun (d : D) (x : EN) => Rv K I x.2.2 d) (valD kvs k) (findN xs k) := by
  have q := fnd_paired (ka := fun x : NestedKey × D => x.1) (kb := fun x : EN => x.1) (fun _ _ r => r.1) k p
  unfold valD findN
  cases e1 : fnd (fun x : NestedKey × D => x.1) kvs k with
  | none =>
    rw [e1] at q
    cases e2 : fnd (fun x : EN => x.1) xs k with
    | none => exact True.intro
    | some x => rw [e2] at q; exact q.elim
  | some a =>
    rw [e1] at q
    cases e2 : fnd (fun x : EN => x.1) xs k with
    | none => rw [e2] at q; exact q.elim
    | some x => rw [e2] at q; exact q.2.2
theorem dn_store {kvs : List (NestedKey × D)} {xs : List EN} (p : Paired (DnR K I) kvs xs) {k : NestedKey} {b : Addr} {v : V} {d : D} (hk : KeyAt I b k) (r : Rv K I v d) : Paired (DnR K I) (putD kvs k d) (storeN xs k b v) :=
  ptb_paired (ka := fun x : NestedKey × D => x.1) (kb := fun x : EN => x.1) (fun _ _ r => r.1) (fun _ _ r2 _ => ⟨r2.1, r2.2.1, r⟩) ⟨rfl, hk, r⟩ p
theorem key_ref {v : V} {ks : List NestedKey} (hd : (NestedKey.tup ks).depth ≤ 8) (r : Rv K I v (NestedKey.tup ks).data) : ∃ b, v = .ref b ∧ KeyAt I b (.tup ks) := by
  obtain ⟨b, xs, rfl, h, t⟩ := Rv.tup (ds := NestedKey.datas ks) r
  exact ⟨b, rfl, .tup h t, hd⟩
end
section
variable {X : Cx} {m : Bool} {ρ ρ1 : List Sl} {W : Wx} {a b c e : Expr} {es : List Expr} {pos p : Pos} {σ : L2.St} {I H I1 H1 : Hp} {E : DE} {Q : Bool → D → List Sl → Prop} {QT : Bool → List Sl → Prop} {ss : List Stmt} {st : Stmt}
theorem dn_at {i : Nat} {q : Addr} {kvs : List (NestedKey × D)} (ok : EnvOk X.K I H σ ρ) (h0 : ρ[i]? = some (.mo q (.dn X.w q kvs))) : ∃ xs, σ[i]? = some (some (.ref q)) ∧ H q = some (ndO X.w q xs) ∧ Paired (DnR X.K I) kvs xs := by
  obtain ⟨v, hv, rfl, u, hu, xs, rfl, t⟩ := ok.at h0 (fun z => nomatch z)
  exact ⟨xs, hv, hu, t⟩
theorem vm_newDn {QV : Sl → List Sl → Prop} (h : ∀ p, QV (.mo p (.dn X.w p [])) ρ) : VM m X (.Dict [] [] pos) ρ W QV := fun σ I H ok xk R f => ⟨_, pe_nnew, fun p np => by
  have g := Grow.dark (o := ndO X.w p []) ok.sub np
  exact f _ (.mo p (.dn X.w p [])) ρ _ _ (Go.of ok g) ⟨⟨rfl, _, upd_same, [], rfl, .nil⟩, List.pairwise_singleton _ _, fun a z => by rw [List.mem_singleton.mp z]; exact ⟨np, ok.sub.nn np⟩⟩ (h p)⟩
/-- e in x -/
theorem tm_nin (i : Nat) {x : Str} {p' : Pos} (hu : X.A.units + 64 < cLine) (h : EM m X e ρ W fun _ d ρ1 => ∃ q kvs ks, d = (NestedKey.tup ks).data ∧ (NestedKey.tup ks).depth ≤ 8 ∧ ρ1[i]? = some (.mo q (.dn X.w q kvs)) ∧ QT (valD kvs (.tup ks)).isSome ρ1) (hN : X.N[i]? = some x := by rfl) (hv : Vis X.env.scope x := by first | exact Or.inl rfl | exact Or.inr (Or.inl rfl) | exact Or.inr (Or.inr rfl))
    (hd : (x == ("__debug__" : Str)) = false := by decide) (hcd : (x == ("__classdict__" : Str)) = false := by decide) (hm : behindInMarks .In (.Name x p') = false := by rfl) : TM m X (.Compare e [.In] [.Name x p'] pos) ρ W QT := fun σ I H ok xk R f =>
  ⟨_, pt_cmpR (op_nin hu) pe_w (pe_var hN hv hd hcd) hm, EM.run h ok xk fun v _ y ρ2 I2 H2 g2 r2 ⟨q, kvs, ks, ed, dp, h2, q2⟩ => by
    subst ed
    have ok2 := g2.env ok
    obtain ⟨xs, hσ, hH, t⟩ := dn_at ok2 h2
    obtain ⟨bb, rfl, hk⟩ := key_ref dp r2
    refine ⟨_, hσ, q, bb, xs, .tup ks, rfl, rfl, hH, dn_nk ok2.sub t, ⟨Dq.sub ok2.sub hk.1, hk.2⟩, _, rfl, ?_⟩
    rw [← (dn_find t (.tup ks)).isSome]
    exact f _ ρ2 I2 H2 g2 q2⟩
/-- e not in x -/
theorem tm_nnotin (i : Nat) {x : Str} {p' : Pos} (hu : X.A.units + 64 < cLine) (h : EM m X e ρ W fun _ d ρ1 => ∃ q kvs ks, d = (NestedKey.tup ks).data ∧ (NestedKey.tup ks).depth ≤ 8 ∧ ρ1[i]? = some (.mo q (.dn X.w q kvs)) ∧ QT (!(valD kvs (.tup ks)).isSome) ρ1) (hN : X.N[i]? = some x := by rfl) (hv : Vis X.env.scope x := by first | exact Or.inl rfl | exact Or.inr (Or.inl rfl) | exact Or.inr (Or.inr rfl))
    (hd : (x == ("__debug__" : Str)) = false := by decide) (hcd : (x == ("__classdict__" : Str)) = false := by decide) (hm : behindInMarks .NotIn (.Name x p') = false := by rfl) : TM m X (.Compare e [.NotIn] [.Name x p'] pos) ρ W QT := fun σ I H ok xk R f =>
  ⟨_, pt_cmpR (op_nnotin hu) pe_w (pe_var hN hv hd hcd) hm, EM.run h ok xk fun v _ y ρ2 I2 H2 g2 r2 ⟨q, kvs, ks, ed, dp, h2, q2⟩ => by
    subst ed
    have ok2 := g2.env ok
    obtain ⟨xs, hσ, hH, t⟩ := dn_at ok2 h2
    obtain ⟨bb, rfl, hk⟩ := key_ref dp r2
    refine ⟨_, hσ, q, bb, xs, .tup ks, rfl, rfl, hH, dn_nk ok2.sub t, ⟨Dq.sub ok2.sub hk.1, hk.2⟩, _, rfl, ?_⟩
    rw [← (dn_find t (.tup ks)).isSome]
    exact f _ ρ2 I2 H2 g2 q2⟩
/-- x[e], there -/
theorem em_nget (i : Nat) {x : Str} {p' : Pos} {q0 : Addr} {kvs0 : List (NestedKey × D)} (hu : X.A.units + 64 < cLine) (h0 : ρ[i]? = some (.mo q0 (.dn X.w q0 kvs0))) (hs : PlainIx b) (h : EM m X b ρ W fun _ d ρ1 => ∃ kvs ks y, d = (NestedKey.tup ks).data ∧ (NestedKey.tup ks).depth ≤ 8 ∧ ρ1[i]? = some (.mo q0 (.dn X.w q0 kvs)) ∧ valD kvs (.tup ks) = some y ∧ Q false y ρ1) (hN : X.N[i]? = some x := by rfl) (hv : Vis X.env.scope x := by first | exact Or.inl rfl | exact Or.inr (Or.inl rfl) | exact Or.inr (Or.inr rfl))
    (hd : (x == ("__debug__" : Str)) = false := by decide) (hcd : (x == ("__classdict__" : Str)) = false := by decide) : EM m X (.Subscript (.Name x p') b pos) ρ W Q := fun σ I H ok xk R f => by
  obtain ⟨xs0, hσ, _, _⟩ := dn_at ok h0
  refine ⟨_, pe_ix (ix_n hu) (pe_var hN hv hd hcd) pe_w hs, _, hσ, ?_⟩
  refine EM.run h ok xk fun v _ y ρ2 I2 H2 g2 r2 ⟨kvs, ks, z, ed, dp, h2, hz, q2⟩ => ?_
  subst ed
  have ok2 := g2.env ok
  obtain ⟨xs, _, hH, t⟩ := dn_at ok2 h2
  obtain ⟨bb, rfl, hk⟩ := key_ref dp r2
  have rr := dn_find t (.tup ks)
  rw [hz] at rr
  cases e2 : findN xs (.tup ks) with
  | none => rw [e2] at rr; exact rr.elim
  | some en =>
    rw [e2] at rr
    exact ⟨q0, bb, xs, .tup ks, en, rfl, rfl, hH, dn_nk ok2.sub t, ⟨Dq.sub ok2.sub hk.1, hk.2⟩, e2, f en.2.2 false z ρ2 I2 H2 g2 rr q2⟩
/-- x[b] = e -/
theorem s1_nset (i : Nat) {x : Str} {p' p2 : Pos} (hu : X.A.units + 64 < cLine)
    (h : EM false X e ρ W fun _ y ρ2 => ∃ q kvs2, ρ2[i]? = some (.mo q (.dn X.w q kvs2)) ∧ EM false X b ρ2 W fun _ kk ρ3 => ∃ kvs ks, kk = (NestedKey.tup ks).data ∧ (NestedKey.tup ks).depth ≤ 8 ∧ ρ3[i]? = some (.mo q (.dn X.w q kvs)) ∧ kvs.length < sizeLine ∧ E.nx (ρ3.set i (.mo q (.dn X.w q (putD kvs (.tup ks) y))))) (hN : X.N[i]? = some x := by rfl) (hv : Vis X.env.scope x := by first | exact Or.inl rfl | exact Or.inr (Or.inl rfl) | exact Or.inr (Or.inr rfl))
    (hd : (x == ("__debug__" : Str)) = false := by decide) (hcd : (x == ("__classdict__" : Str)) = false := by decide)
    (ha : ∀ v, assign (.Subscript (.Name x p') b p2) X.env v = (do
      let ov ← holding [v] (eval (.Name x p') X.env)
      let iv ← holding [v, ov] (eval b X.env)
      standAt p2
      holding [v, ov, iv] (setItem ov iv v)
      release [v, ov, iv] []) := by intro _; rfl)
    (hs : swapsWithSole [.Subscript (.Name x p') b p2] e pos.line X.env = pure false := by rfl) (hw : swappedStores [.Subscript (.Name x p') b p2] e X.env = pure none := by rfl) (h1 : List.map (fun x => x.snd) (assignEach [.Subscript (.Name x p') b p2] X.env) = [assign (.Subscript (.Name x p') b p2) X.env] := by rfl) :
    S1 X (.Assign [.Subscript (.Name x p') b p2] e pos) ρ W E := fun σ I H ok xk T k =>
  ⟨_, ps_asg pe_w (pg_sub (pe_var hN hv hd hcd) pe_w (set_n hu) ha) hs hw h1, EM.run h ok xk fun v _ y ρ2 I2 H2 g2 r2 ⟨q, kvs2, h2, q2⟩ => by
    have ok2 := g2.env ok
    obtain ⟨xs2, hσ, hH2, _⟩ := dn_at ok2 h2
    refine ⟨_, hσ, EM.run q2 ok2 (xk.step g2.step) fun u _ kk ρ3 I3 H3 g3 r3 ⟨kvs, ks, ek, dp, h3, hl, q3⟩ => ?_⟩
    subst ek
    have ok3 := g3.env ok2
    obtain ⟨xs3, _, hH3, t3⟩ := dn_at ok3 h3
    obtain ⟨bb, rfl, hk⟩ := key_ref dp r3
    have g := ok3.mut (mo' := .dn X.w q (putD kvs (.tup ks) y)) h3 ⟨_, rfl, dn_store t3 hk (Rv.same g3.ii r2)⟩
    have gg := (g2.trans g3).trans g
    exact ⟨q, bb, xs3, .tup ks, rfl, rfl, hH3, dn_nk ok3.sub t3, ⟨Dq.sub ok3.sub hk.1, hk.2⟩, by rw [← Paired.length t3]; exact hl, k.nx _ _ _ _ (gg.env ok) gg.step q3⟩⟩

/-! ### dicts of texts -/
/-- from here on it is data: no one writes at it any more -/
theorem pss_lock {t : TS} (h : PSs X ss t) : PSs X ss (fun D σ H => ∃ d u, H d = some u ∧ Mut (some u) ∧ ∀ od, t D σ (upd H d (.frz od u))) := ⟨fun pins s σ H D I ⟨d, u, hd, mu, hw⟩ => by
  obtain ⟨od, I1⟩ := I.lock hd mu
  exact h.run pins s σ _ D I1 (hw od)⟩
theorem sd_lock (i : Nat) {q : Addr} {ks : List Str} (h0 : ρ[i]? = some (.mo q (.dk ks))) (h : SD X ss (ρ.set i (.va (dictD ks))) W E) : SD X ss ρ W E := fun σ I H ok xk T k => by
  obtain ⟨v, hv, rfl, u, hu, hφ⟩ := ok.at h0 (fun z => nomatch z)
  have hφ : u = dictO ks := hφ
  subst hφ
  have hl : i < ρ.length := (List.getElem?_eq_some_iff.mp h0).1
  have fi : ft ρ i = [q] := ft_at h0
  have qi : q ∈ ft ρ i := by rw [fi]; exact List.mem_singleton.mpr rfl
  have nI : I q = none := ok.out i q qi
  have fs : ∀ j a, a ∈ ft (ρ.set i (.va (dictD ks))) j → a ∈ ft ρ j ∧ j ≠ i := fun j a hj => by
    rw [ft_set] at hj
    split at hj
    · cases hj
    · rename_i z
      refine ⟨hj, fun e => ?_⟩
      subst e
      exact z ⟨rfl, hl⟩
  have mts : ∀ a, Mt (ρ.set i (.va (dictD ks))) a → Mt ρ a := fun a m => (mt_set m).elim id fun z => by cases z
  have qm : Mt ρ q := ⟨i, qi⟩
  refine ⟨_, pss_lock pss_w, q, _, hu, True.intro, fun od => ?_⟩
  have ij : Same I (upd I q (.frz od (dictO ks))) := fun a o e => by rw [upd_ne (ne_of_none e nI)]; exact e
  have ok' : EnvOk X.K (upd I q (.frz od (dictO ks))) (upd H q (.frz od (dictO ks))) σ (ρ.set i (.va (dictD ks))) := by
    refine ⟨by rw [List.length_set]; exact ok.len, fun j s e => ?_, fun j => ?_, fun j k a h1 h2 => ok.dj j k a (fs j a h1).1 (fs k a h2).1, fun j a h1 => ?_, fun a o e => ?_⟩
    · by_cases z : i = j
      · subst z
        rw [List.getElem?_set_self hl] at e
        cases e
        rw [hv]
        exact ⟨.inr (.inl ⟨q, ks, od, rfl, rfl, upd_same⟩)⟩
      · rw [List.getElem?_set_ne z] at e
        refine (ok.ok j s e).grow ij fun a u' ha e2 => ?_
        rw [upd_ne]
        · exact e2
        · intro z2
          subst z2
          exact z (ok.dj i j a qi (by rw [ft_at e]; exact ha))
    · rw [ft_set]
      split
      · exact List.nodup_nil
      · exact ok.nd j
    · obtain ⟨m, ne⟩ := fs j a h1
      rw [upd_ne (fun z => ne (ok.dj j i a m (by rw [z]; exact qi)))]
      exact ok.out j a m
    · by_cases z : a = q
      · subst z
        rw [upd_same] at e ⊢
        exact .inl e
      · rw [upd_ne z] at e ⊢
        exact ok.sub a o e
  have st : Step I H (Mt ρ) (upd I q (.frz od (dictO ks))) (upd H q (.frz od (dictO ks))) (Mt (ρ.set i (.va (dictD ks)))) := by
    refine ⟨ij, fun a o e nm => ?_, fun a o e n nm => ?_, fun a m => .inl (mts a m), fun a o e => ?_⟩
    · rw [upd_ne (fun z => nm (by rw [z]; exact qm))]
      exact e
    · rw [upd_ne (fun z => nm (by rw [z]; exact qm))]
      exact n
    · by_cases z : a = q
      · subst z
        exact ⟨_, upd_same⟩
      · exact ⟨o, by rw [upd_ne z]; exact e⟩
  exact h σ _ _ ok' (xk.step st) T (k.step st)
theorem WalkD.keys {K : PySem.W.Frag} {I : Hp} {q : Addr} {o : Obj} {ks : List Str} (h : I q = some (.frz o (dictO ks))) : WalkD K (Itk q o (ks.map fun k => (Sum.inr k, V.bl true))) I (ks.map .str) := ⟨by
  have w := walk_keys (d := q) (o := o) (kvs := ks.map fun k => (Sum.inr k, V.bl true))
  rw [List.length_map] at w
  rw [List.length_map]
  refine w.mono (fun H s => s.frz h) fun i H v H' hi s y => ?_
  obtain ⟨e, k, v', hk, rfl⟩ := y
  subst e
  rw [List.getElem?_map] at hk
  obtain ⟨z, hz, e⟩ := Option.map_eq_some_iff.mp hk
  cases e
  exact ⟨.str z, by rw [List.getElem?_map, hz]; rfl, fun I1 ii s1 => ⟨I1, Grow.refl s1, .mkStr⟩⟩⟩
/-- for k in e, a dict of texts -/
theorem im_dict {tg iter : Expr} {QI : List D → List Sl → Prop} (h : EM m X iter ρ W fun _ d ρ1 => ∃ ks, d = dictD ks ∧ QI (ks.map .str) ρ1) : IM m X tg iter ρ W QI := fun σ I H ok xk R f =>
  ⟨_, pi_keys pe_w, h.run ok xk fun v o d ρ1 I1 H1 g r ⟨ks, e, q⟩ => by
    subst e
    obtain ⟨a, od, rfl, ha⟩ := r.dict
    exact ⟨a, od, rfl, .inl ⟨_, (g.env ok).sub.frz ha, f _ _ ρ1 I1 H1 g (.keys ha) q⟩⟩⟩
/-- the keys behind d[k] = True -/
def addS (ks : List Str) (k : Str) : List Str := if k ∈ ks then ks else ks ++ [k]
theorem putK_dict (ks : List Str) (k : Str) : putK (ks.map fun k => ((Sum.inr k : Key), V.bl true)) (Sum.inr k) (V.bl true) = (addS ks k).map fun k => ((Sum.inr k : Key), V.bl true) := by
  unfold putK addS
  have e : ((ks.map fun k => ((Sum.inr k : Key), V.bl true)).any fun kv => decide (kv.1 = Sum.inr k)) = decide (k ∈ ks) := by
    rw [List.any_map]
    induction ks with
    | nil => rfl
    | cons x r ih =>
      rw [List.any_cons, ih]
      simp only [Function.comp, Sum.inr.injEq, List.mem_cons]
      by_cases z : x = k
      · simp [z]
      · simp [z]
        exact fun w => absurd w.symm z
  rw [e]
  by_cases m : k ∈ ks
  · rw [if_pos (decide_eq_true m), if_pos m, List.map_map]
    refine List.map_congr_left fun x _ => ?_
    simp only [Function.comp]
    split <;> rfl
  · rw [if_neg (by rw [decide_eq_false m]; exact Bool.false_ne_true), if_neg m, List.map_append]
    rfl
theorem dk_at {i : Nat} {q : Addr} {ks : List Str} (ok : EnvOk X.K I H σ ρ) (h0 : ρ[i]? = some (.mo q (.dk ks))) : σ[i]? = some (some (.ref q)) ∧ H q = some (dictO ks) := by
  obtain ⟨v, hv, rfl, u, hu, t⟩ := ok.at h0 (fun z => nomatch z)
  have t : u = dictO ks := t
  subst t
  exact ⟨hv, hu⟩
/-- x[b] = True -/
theorem s1_kset (i : Nat) {x : Str} {p' p2 pc : Pos} {j} (hu : X.A.units + 64 < cLine) {q : Addr} {ks0 : List Str} (h0 : ρ[i]? = some (.mo q (.dk ks0)))
    (h : EM false X b ρ W fun _ kk ρ3 => ∃ ks z, kk = .str z ∧ ρ3[i]? = some (.mo q (.dk ks)) ∧ ks.length < sizeLine ∧ E.nx (ρ3.set i (.mo q (.dk (addS ks z))))) (hN : X.N[i]? = some x := by rfl) (hv : Vis X.env.scope x := by first | exact Or.inl rfl | exact Or.inr (Or.inl rfl) | exact Or.inr (Or.inr rfl))
    (hd : (x == ("__debug__" : Str)) = false := by decide) (hcd : (x == ("__classdict__" : Str)) = false := by decide)
    (ha : ∀ v, assign (.Subscript (.Name x p') b p2) X.env v = (do
      let ov ← holding [v] (eval (.Name x p') X.env)
      let iv ← holding [v, ov] (eval b X.env)
      standAt p2
      holding [v, ov, iv] (setItem ov iv v)
      release [v, ov, iv] []) := by intro _; rfl)
    (hs : swapsWithSole [.Subscript (.Name x p') b p2] (.Constant (.bool true) j pc) pos.line X.env = pure false := by rfl) (hw : swappedStores [.Subscript (.Name x p') b p2] (.Constant (.bool true) j pc) X.env = pure none := by rfl) (h1 : List.map (fun x => x.snd) (assignEach [.Subscript (.Name x p') b p2] X.env) = [assign (.Subscript (.Name x p') b p2) X.env] := by rfl) :
    S1 X (.Assign [.Subscript (.Name x p') b p2] (.Constant (.bool true) j pc) pos) ρ W E := fun σ I H ok xk T k =>
  ⟨_, ps_asg pe_bl (pg_sub (pe_var hN hv hd hcd) pe_w (set_dict (by omega)) ha) hs hw h1, by
    obtain ⟨hσ, hH2⟩ := dk_at ok h0
    refine ⟨_, hσ, EM.run h ok xk fun u _ kk ρ3 I3 H3 g3 r3 ⟨ks, z, ek, h3, hl, q3⟩ => ?_⟩
    subst ek
    have ok3 := g3.env ok
    obtain ⟨_, hH3⟩ := dk_at ok3 h3
    have g := ok3.mut (mo' := .dk (addS ks z)) (o := dictO (addS ks z)) h3 rfl
    rw [r3.str]
    have gg := g3.trans g
    refine ⟨q, _, rfl, DPut.k (k := Sum.inr z) hH3 (by rw [List.length_map]; exact hl), ?_⟩
    rw [putK_dict]
    exact k.nx _ _ _ _ (gg.env ok) gg.step q3⟩
end
end Tt

namespace Tt
open PySem PySem.Spec PyProof.Rows L2 PySem.W

section
variable {prog : Program} {w : World} {A : Around} {E : Value → Shared → Prop} {s : Shared}
theorem collect_tuple {l : Addr} {vs : List Value} {Q : List Value → Shared → Prop} (hl : IsTup s.heap l vs.toArray)
    (h : Q vs { s with heap := (s.heap.push (seqObj "list" #[] 0)).update s.heap.objs.size (Obj.mapSeq (· ++ vs.toArray)) }) (hsz : vs.length ≤ sizeLine) :
    wpAny (model prog w) A (collect (.ref l)) Q E s := by
  obtain ⟨o, ho, hc, n, hd⟩ := id hl
  unfold collect
  refine wpAny_bind (wpAny_runValue (codeAny_builtin entry_proto_collect' ?_))
  show wpAny _ _ (do again (.builtin "list.__iadd__" ⟨[← newList [], .ref l], []⟩)) _ _ s
  refine wpAny_bind (wpAny_newList (wpAny_pure ⟨Code.quiet_builtin _ (by decide +kernel), codeAny_builtin entry_list_iadd' ?_⟩))
  show wpAny _ _ (Builtin.List.listExtendWith (.ref s.heap.objs.size) (.ref l) (.ref s.heap.objs.size)) _ _ { s with heap := s.heap.push (seqObj "list" #[] 0) }
  unfold Builtin.List.listExtendWith
  have ho' : (s.heap.push (seqObj "list" #[] 0)).get? l = some o := Heap.get?_push_of_some _ ho
  refine wpAny_bind (wpAny_typeOf (T := "tuple") ⟨o, ho', hc⟩ ?_)
  have ht : (Value.type "tuple" == Value.type "tuple") = true := by rfl
  rw [if_pos (by rw [ht]; simp)]
  refine wpAny_bind (listItems_at ho' hd ?_)
  refine wpAny_bind (listItems_at (xs := #[]) (n := 0) (Heap.get?_push_size _ rfl) rfl ?_)
  rw [if_neg (by simp)]
  refine wpAny_bind (listUpdate_at (xs := #[]) (n := 0) (Heap.get?_push_size _ rfl) rfl ?_ (Nat.zero_le _) (by show (#[] ++ vs.toArray).size ≤ sizeLine + 1; simp only [Array.size_append, List.size_toArray, List.length_nil]; omega))
  refine wpAny_pure ?_
  show wpAny (model prog w) A (do
      let o ← load s.heap.objs.size
      match o.data with
      | .seq xs _ => pure xs.toList
      | _ => unsupported "internal:collect") Q E { s with heap := (s.heap.push (seqObj "list" #[] 0)).update s.heap.objs.size (Obj.mapSeq (· ++ vs.toArray)) }
  refine wpAny_bind (wpAny_load (get?_update_seq (Heap.get?_push_size _ rfl) _) ?_)
  show wpAny _ _ (pure ((#[] : Array Value) ++ vs.toArray).toList) Q E _
  rw [show ((#[] : Array Value) ++ vs.toArray).toList = vs by simp]
  exact wpAny_pure h
/-- sorted(x), x collected to vs -/
theorem sorted_coll {β : Type} {bs : List β} {enc : β → D} {R : Value → β → Prop} {arg : Value} {P : List Value → Prop} {Q : Value → Shared → Prop}
    (col : ∀ {E' : Value → Shared → Prop} {Q' : List Value → Shared → Prop}, (∀ h' tk vs, (∀ b o, s.heap.get? b = some o → h'.get? b = some o) → P vs → Q' vs { s with heap := h', toks := tk }) → wpAny (model prog w) A.in1 (collect arg) Q' E' s)
    (e : ∀ vs, P vs → EachIs R vs bs) (er : ∀ vs, P vs → EachIs (fun v b => ∃ as, Reads s.heap v (enc b) as) vs bs) (hal : AllAlike (bs.map enc)) (hk : Sortable (bs.map enc)) (hL : bs.length ≤ sizeLine)
    (hu : ∀ b, b ∈ bs → A.units + 2 + (enc b).depth < cLine)
    (h : ∀ (h1 h' : Heap) tk out n, (∀ b o, s.heap.get? b = some o → h1.get? b = some o) → (∀ b o, h1.get? b = some o → h'.get? b = some o) → out.length = bs.length → EachIs R out (bs.mergeSort (dataLe false enc)) → h'.get? h1.objs.size = some (seqObj "list" (List.toArray out) n) → Q (.ref h1.objs.size) { s with heap := h', toks := tk }) :
    wpAny (model prog w) A (call (.builtin "sorted") [arg]) Q E s := by
  refine Calls.call_function_entry kind_sorted plain_sorted entry_sorted (args_sorted1 _) ?_
  unfold Builtin.«sorted»
  refine wpAny_bind (m := checkCount "sorted" 1 1 _) (wpAny_pure ?_)
  refine wpAny_bind (col fun h1 tk vs kp pv => ?_)
  have ev := e vs pv
  have hv : vs.length ≤ sizeLine := by rw [ev.length]; exact hL
  refine wpAny_bind (wpAny_newList ?_ hv)
  have hoL : (h1.push (seqObj "list" vs.toArray 0)).get? h1.objs.size = some (seqObj "list" vs.toArray 0) := Heap.get?_push_size _ rfl
  show wpAny _ _ _ _ _ { s with heap := h1.push (seqObj "list" vs.toArray 0), toks := tk }
  have kp2 : ∀ b o, s.heap.get? b = some o → (h1.push (seqObj "list" vs.toArray 0)).get? b = some o := fun b o q => Heap.get?_push_of_some _ (kp b o q)
  have er' : EachIs (fun v b => ∃ as, Reads (sortingHeap (h1.push (seqObj "list" vs.toArray 0)) h1.objs.size vs) v (enc b) as) vs bs :=
    (er vs pv).mono fun _ _ ⟨as, r⟩ => ⟨as, PyProof.Rows.Reads.keeps (fun b o q => sortingHeap_old (Nat.ne_of_lt (Heap.lt_size (kp b o q))) (kp2 b o q)) r⟩
  refine wpAny_bind (wpAny_holding (wpAny_call_entry slot_list_sort ⟨_, hoL, rfl⟩ entry_list_sort
    (list_sort_vals (s := { s with heap := h1.push (seqObj "list" vs.toArray 0), toks := tk }) (κ := dataKind (sortingHeap (h1.push (seqObj "list" vs.toArray 0)) h1.objs.size vs) (bs.map enc)) hoL
      (SortsAt.data (s := { s with heap := sortingHeap (h1.push (seqObj "list" vs.toArray 0)) h1.objs.size vs, toks := tk }) (each_map (R := fun v d => ∃ as, Reads (sortingHeap (h1.push (seqObj "list" vs.toArray 0)) h1.objs.size vs) v d as) enc er') hal hk (bound_map hu)) hv ⟨_, rfl, ?_⟩) (args_list_sort _)))
  obtain ⟨n, he⟩ := PyProof.Rows.sortedHeap_at (vs := vs) (out := (sortVals (dataKind (sortingHeap (h1.push (seqObj "list" vs.toArray 0)) h1.objs.size vs) (bs.map enc)) false vs vs).toArray) hoL
  refine wpAny_pure ⟨_, rfl, h h1 _ tk _ n kp (fun b o q => ?_) (by rw [sortVals_length false rfl]; exact ev.length) (sortVals_data false ev er' hal) he⟩
  have hb : b < h1.objs.size := Heap.lt_size q
  rw [PyProof.Rows.sortedHeap_old (Nat.ne_of_lt hb) (by rw [size_push']; exact Nat.lt_succ_of_lt hb)]
  exact Heap.get?_push_of_some _ q
end
/-! ### sorted(x) of data -/
def Sb (I : Hp) (v : Value) (d : D) : Prop := ∃ x, RelV x v ∧ Dq I x d
theorem each_sb {I : Hp} : ∀ {xs : List V} {vs : List Value} {ds : List D}, Vals xs vs → DqAll I xs ds → EachIs (Sb I) vs ds
  | _, _, _, .nil, .nil => .nil
  | _, _, _, .cons r t, .cons q t' => .cons ⟨_, r, q⟩ (each_sb t t')
theorem sb_each {I : Hp} : ∀ {vs : List Value} {ds : List D}, EachIs (Sb I) vs ds → ∃ xs, Vals xs vs ∧ DqAll I xs ds
  | _, _, .nil => ⟨[], .nil, .nil⟩
  | _, _, .cons ⟨x, r, q⟩ t => by
    obtain ⟨xs, h1, h2⟩ := sb_each t
    exact ⟨x :: xs, .cons r h1, .cons q h2⟩
theorem each_unmap {α β : Type} {R : Value → D → Prop} (enc : β → D) : ∀ {vs : List Value} {bs : List β}, EachIs R vs (bs.map enc) → EachIs (fun v b => R v (enc b)) vs bs
  | _, [], h => by cases h; exact .nil
  | _, b :: bs, h => by
    cases h with
    | cons h t => exact .cons h (each_unmap (α := α) enc t)
section
variable {X : Cx} {pins : List (Addr × Obj)} {σ : L2.St} {H I : Hp} {s : Shared} {β : Type} {bs : List β} {enc : β → D}
/-- data that can be sorted -/
structure Sorts (enc : β → D) (bs : List β) : Prop where
  al : AllAlike (bs.map enc)
  so : Sortable (bs.map enc)
  dp : ∀ b ∈ bs, (enc b).depth ≤ 32
  ln : bs.length ≤ sizeLine
theorem sorted_inv {arg : Value} {P : List Value → Prop} {Q : VK} (Iv : Inv X pins σ H s) (sb : Sub I H) (S : Sorts enc bs) (hu : X.A.units + 64 < cLine)
    (col : ∀ {E' : Value → Shared → Prop} {Q' : List Value → Shared → Prop}, (∀ h' tk vs, (∀ b o, s.heap.get? b = some o → h'.get? b = some o) → P vs → Q' vs { s with heap := h', toks := tk }) → wpAny (model X.prog X.w) X.A.in1 (collect arg) Q' E' s)
    (hP : ∀ vs, P vs → ∃ xs, Vals xs vs ∧ DqAll I xs (bs.map enc))
    (q : ∀ p ys, H p = none → DqAll I ys ((bs.mergeSort (dataLe false enc)).map enc) → Q (.ref p) (upd H p (.lst ys))) : wpAny (model X.prog X.w) X.A (call (.builtin "sorted") [arg]) (EP X pins σ Q) X.xe s := by
  have e : ∀ vs, P vs → EachIs (fun v b => Sb I v (enc b)) vs bs := fun vs pv => by
    obtain ⟨xs, h1, h2⟩ := hP vs pv
    exact each_unmap (α := Unit) enc (each_sb h1 h2)
  refine sorted_coll (R := fun v b => Sb I v (enc b)) (P := P) col e (fun vs pv => (e vs pv).mono fun v b ⟨x, r, hq⟩ => Dp.reads Iv (enc b) x v (Dq.dp (Dq.sub sb hq)) r) S.al S.so S.ln (fun b hb => by have := S.dp b hb; omega) fun h1 h' tk out n k1 k2 hl eo hg => ?_
  obtain ⟨ys, r1, r2⟩ := sb_each (each_map (R := Sb I) enc eo)
  have I1 : Inv X pins σ H { s with heap := h1, toks := tk } := Iv.kept k1
  refine ⟨.ref h1.objs.size, upd H h1.objs.size (.lst ys), I1.laid (t' := tk) k2 (Nat.le_refl _) (show ObjOk X.prog X.w _ _ _ (.lst ys) from ⟨?_, out, n, r1, hg⟩), rfl, q _ ys (I1.hok.fresh (Nat.le_refl _)) r2⟩
  rw [r1.length, hl]
  exact S.ln
def rSort (I : Hp) (enc : β → D) (bs : List β) : List V → Hp → VK → Prop := fun vs H Q => ∃ p xs, vs = [.ref p] ∧ (H p = some (.lst xs) ∨ H p = some (.tup xs)) ∧ Sub I H ∧ DqAll I xs (bs.map enc) ∧ Sorts enc bs ∧
  ∀ q ys, H q = none → DqAll I ys ((bs.mergeSort (dataLe false enc)).map enc) → Q (.ref q) (upd H q (.lst ys))
theorem cr_sort (hu : X.A.units + 64 < cLine) : CallR X (.builtin "sorted") (rSort I enc bs) := by
  intro pins s σ H xs us Q Iv r h
  obtain ⟨p, vs, rfl, ha, sb, t, S, q⟩ := h
  obtain ⟨u, rfl, rx⟩ := vals1 r
  cases rx
  have hl : vs.length ≤ sizeLine := by rw [t.len, List.length_map]; exact S.ln
  rcases ha with ha | ha
  · obtain ⟨its, rv, pl, hz⟩ := Iv.list (SqL.of ha)
    refine sorted_inv (P := fun vs' => vs' = its) Iv sb S hu (fun {E' Q'} k => collect_list (vs := its) pl.isList (k _ s.toks its (fun b o e => ?_) rfl) (by rw [← rv.length]; exact hl)) (fun vs' e => by subst e; exact ⟨vs, rv, t⟩) q
    rw [Heap.get?_update_ne _ _ _ _ (Nat.ne_of_lt (Heap.lt_size e))]
    exact Heap.get?_push_of_some _ e
  · obtain ⟨its, rv, pl, hz⟩ := Iv.tuple (SqT.of ha)
    refine sorted_inv (P := fun vs' => vs' = its) Iv sb S hu (fun {E' Q'} k => collect_tuple (vs := its) pl (k _ s.toks its (fun b o e => ?_) rfl) (by rw [← rv.length]; exact hl)) (fun vs' e => by subst e; exact ⟨vs, rv, t⟩) q
    rw [Heap.get?_update_ne _ _ _ _ (Nat.ne_of_lt (Heap.lt_size e))]
    exact Heap.get?_push_of_some _ e
theorem kd_sorted_list {Q : Bool → D → Prop} (hu : X.A.units + 64 < cLine) (S : Sorts enc bs) (q : Q true (.list ((bs.mergeSort (dataLe false enc)).map enc))) : KD X (.builtin "sorted") [.list (bs.map enc)] Q := fun I H vs s r R k => by
  obtain ⟨v, rfl, r'⟩ := kd_one r
  obtain ⟨a, xs, rfl, ha, t⟩ := r'.lst
  exact ⟨_, cr_sort (I := I) hu, a, xs, rfl, .inl (s.lst ha), s, t, S, fun p ys n t' => k.lst s t' q n⟩
theorem kd_sorted_tuple {Q : Bool → D → Prop} (hu : X.A.units + 64 < cLine) (S : Sorts enc bs) (q : Q true (.list ((bs.mergeSort (dataLe false enc)).map enc))) : KD X (.builtin "sorted") [.tuple (bs.map enc)] Q := fun I H vs s r R k => by
  obtain ⟨v, rfl, r'⟩ := kd_one r
  obtain ⟨a, xs, rfl, ha, t⟩ := r'.tup
  exact ⟨_, cr_sort (I := I) hu, a, xs, rfl, .inr (s.tup ha), s, t, S, fun p ys n t' => k.lst s t' q n⟩
end
end Tt

namespace Tt
open PySem PySem.Spec PyProof.Rows L2 PySem.W

section
variable {X : Cx} {β : Type} {bs : List β} {enc : β → D} {I : Hp}
theorem cr_sortDk (hc : X.calm = true) (hu : X.A.units + 64 < cLine) {ks : List Str} (S : Sorts PyData.str ks) : CallR X (.builtin "sorted") (fun vs H Q => ∃ p, vs = [.ref p] ∧ Rd H p (dictO ks) ∧ Sub I H ∧
    ∀ q ys, H q = none → DqAll I ys ((ks.mergeSort (dataLe false PyData.str)).map PyData.str) → Q (.ref q) (upd H q (.lst ys))) := by
  intro pins s σ H xs us Q Iv r h
  obtain ⟨p, rfl, hd, sb, q⟩ := h
  obtain ⟨u, rfl, rx⟩ := vals1 r
  cases rx
  obtain ⟨z, lo, vs, rel, dd⟩ := dk_rd Iv.hok hd
  obtain ⟨ep, hat⟩ := dd.dictAt
  have hkeys : vs.map (·.1) = ks.map Sum.inr := by
    have := rel.keys
    rw [List.map_map] at this
    exact this.symm
  have hl : vs.length = ks.length := by
    have e := congrArg List.length hkeys
    rw [List.length_map, List.length_map] at e
    exact e
  have hh : X.A.in1.handled = none := Iv.ok.hd hc
  refine sorted_inv (P := fun us => StrsAre us ks) Iv sb S hu (fun {E' Q'} k => kdu_collect (A := X.A.in1) (kdl_dict (knd := mixKind X.prog X.w) (kvs := vs) (ep := ep) lo) hh hat (by rw [hl]; exact S.ln) fun h' tk acc kp hacc => k h' tk acc.toList kp ?_) (fun us su => ⟨ks.map V.str, vals_of_strs su, DqAll.mkStrs ks⟩) q
  refine strs_at (by rw [Array.length_toList, hacc.1, hl]) fun j v e => ?_
  obtain ⟨k, x, e1, e2⟩ := hacc.2 j v (by rw [← Array.getElem?_toList]; exact e)
  have e3 : (vs.map (·.1))[j]? = some k := by rw [List.getElem?_map, e1]; rfl
  rw [hkeys, List.getElem?_map] at e3
  cases e4 : ks[j]? with
  | none => rw [e4] at e3; cases e3
  | some y =>
    rw [e4] at e3
    have e5 : Sum.inr y = k := Option.some.inj e3
    subst e5
    obtain ⟨t, ev⟩ := Value.isStrOf_shape (x := y) (v := v) e2
    exact ⟨y, t, rfl, ev⟩
theorem nd_vals : ∀ {K : PySem.W.Frag} {kvs : List (NestedKey × D)} {xs : List EN}, Paired (DnR K I) kvs xs → DqAll I (xs.map fun x => V.ref x.2.1) (kvs.map fun p => p.1.data)
  | _, _, _, .nil => .nil
  | _, _, _, .cons (b := x) h t => .cons (by
      have := h.2.1.1
      rw [← h.1] at this
      exact this) (nd_vals t)
theorem cr_sortDn (hc : X.calm = true) (hu : X.A.units + 64 < cLine) {kvs : List (NestedKey × D)} {dec : β → NestedKey} (ek : kvs.map (·.1) = bs.map dec) (S : Sorts (fun b => (dec b).data) bs) : CallR X (.builtin "sorted") (fun vs H Q => ∃ p xs, vs = [.ref p] ∧ H p = some (ndO X.w p xs) ∧ Sub I H ∧ Paired (DnR X.K I) kvs xs ∧
    ∀ q ys, H q = none → DqAll I ys ((bs.mergeSort (dataLe false fun b => (dec b).data)).map fun b => (dec b).data) → Q (.ref q) (upd H q (.lst ys))) := by
  intro pins s σ H xs0 us Q Iv r h
  obtain ⟨p, xs, rfl, hd, sb, t, q⟩ := h
  obtain ⟨u, rfl, rx⟩ := vals1 r
  cases rx
  obtain ⟨hs, hl, ys, pr, o, es, ep, ho, hx, hdt, he, _, _⟩ := nd_of Iv.hok hd (dn_nk sb t)
  have l1 : es.size = ys.length := size_of_entries he
  have l2 : xs.length = ys.length := Paired.length pr
  have hh : X.A.in1.handled = none := Iv.ok.hd hc
  refine sorted_inv (P := fun us => us = ys.map fun y => Value.ref y.2.1) Iv sb S hu (fun {E' Q'} k => kdu_collect (A := X.A.in1) (kdl_raw hs hx hdt) hh ho (by omega) fun h' tk acc kp it => k h' tk acc.toList kp ?_) (fun us e => ?_) q
  · have hl : acc.toList.length = ys.length := by rw [Array.length_toList, it.1]; exact l1
    apply List.ext_getElem?
    intro j
    rw [List.getElem?_map]
    cases hj : acc.toList[j]? with
    | none =>
      have h1 := List.getElem?_eq_none_iff.mp hj
      rw [List.getElem?_eq_none (by omega)]
      rfl
    | some v =>
      obtain ⟨en, hen, hv⟩ := it.2 j v (by rw [← Array.getElem?_toList]; exact hj)
      have qe := entry_at he j
      rw [hen] at qe
      cases hb : ys[j]? with
      | none =>
        rw [hb] at qe
        cases qe
      | some b =>
        rw [hb] at qe
        have e2 : en = entryOfKey (nestedKind X.prog X.w) b := Option.some.inj qe
        rw [hv, e2]
        rfl
  · subst e
    refine ⟨xs.map fun x => V.ref x.2.1, ?_, ?_⟩
    · have : ∀ {xs : List EN} {ys : List (NestedKey × Addr × Value)}, Paired RelY xs ys → Vals (xs.map fun x => V.ref x.2.1) (ys.map fun y => Value.ref y.2.1) := by
        intro xs ys p
        induction p with
        | nil => exact .nil
        | cons h t ih => exact .cons (show Value.ref _ = Value.ref _ by rw [h.2.1]) ih
      exact this pr
    · have e : (kvs.map fun p => p.1.data) = bs.map fun b => (dec b).data := by
        have := congrArg (List.map NestedKey.data) ek
        rw [List.map_map, List.map_map] at this
        exact this
      rw [← e]
      exact nd_vals t
end
section
variable {X : Cx} {m : Bool} {ρ ρ1 : List Sl} {W : Wx} {pos p p' : Pos} {Q : Bool → D → List Sl → Prop}
/-- sorted(x), x a dict of texts of one's own -/
theorem em_sortedK (i : Nat) {x : Str} {q : Addr} {ks : List Str} (hc : X.calm = true) (hu : X.A.units + 64 < cLine) (hms : X.mg "sorted" = none) (h0 : ρ[i]? = some (.mo q (.dk ks))) (S : Sorts PyData.str ks) (h : Q true (.list ((ks.mergeSort (dataLe false PyData.str)).map .str)) ρ)
    (hN : X.N[i]? = some x := by rfl) (hv : Vis X.env.scope x := by first | exact Or.inl rfl | exact Or.inr (Or.inl rfl) | exact Or.inr (Or.inr rfl))
    (hd : (x == ("__debug__" : Str)) = false := by decide) (hcd : (x == ("__classdict__" : Str)) = false := by decide) (hg : Gl X "sorted" := by rfl)
    (he : starEach [Expr.Name x p'] X.env = (false, eval (.Name x p') X.env) :: starEach [] X.env := by rfl) (hpl : (backTo pos (starEach [] X.env)).any (·.1) = false := by rfl) : EM m X (.Call (.Name "sorted" p) [.Name x p'] [] pos) ρ W Q := fun σ I H ok xk R f => by
  obtain ⟨hσ, hH⟩ := dk_at ok h0
  refine ⟨_, pe_callB (cr_sortDk (I := I) hc hu S) hg hms PyProof.Rows.boot_sorted (pa_cons (pe_var hN hv hd hcd) pa_nil he) (by decide) (by decide) he hpl, _, hσ, q, rfl, .inl hH, ok.sub, fun r ys n t => ?_⟩
  exact f _ true _ ρ I _ (Go.of ok (Grow.dark ok.sub n)) ⟨r, ys, _, rfl, rfl, n, ok.sub.nn n, upd_same, t⟩ h
/-- sorted(x), x a dict with nested keys of one's own -/
theorem em_sortedN (i : Nat) {x : Str} {q : Addr} {kvs : List (NestedKey × D)} {β : Type} {bs : List β} {dec : β → NestedKey} (hc : X.calm = true) (hu : X.A.units + 64 < cLine) (hms : X.mg "sorted" = none) (h0 : ρ[i]? = some (.mo q (.dn X.w q kvs))) (ek : kvs.map (·.1) = bs.map dec) (S : Sorts (fun b => (dec b).data) bs)
    (h : Q true (.list ((bs.mergeSort (dataLe false fun b => (dec b).data)).map fun b => (dec b).data)) ρ)
    (hN : X.N[i]? = some x := by rfl) (hv : Vis X.env.scope x := by first | exact Or.inl rfl | exact Or.inr (Or.inl rfl) | exact Or.inr (Or.inr rfl))
    (hd : (x == ("__debug__" : Str)) = false := by decide) (hcd : (x == ("__classdict__" : Str)) = false := by decide) (hg : Gl X "sorted" := by rfl)
    (he : starEach [Expr.Name x p'] X.env = (false, eval (.Name x p') X.env) :: starEach [] X.env := by rfl) (hpl : (backTo pos (starEach [] X.env)).any (·.1) = false := by rfl) : EM m X (.Call (.Name "sorted" p) [.Name x p'] [] pos) ρ W Q := fun σ I H ok xk R f => by
  obtain ⟨xs, hσ, hH, t⟩ := dn_at ok h0
  refine ⟨_, pe_callB (cr_sortDn (I := I) hc hu ek S) hg hms PyProof.Rows.boot_sorted (pa_cons (pe_var hN hv hd hcd) pa_nil he) (by decide) (by decide) he hpl, _, hσ, q, xs, rfl, hH, ok.sub, t, fun r ys n t => ?_⟩
  exact f _ true _ ρ I _ (Go.of ok (Grow.dark ok.sub n)) ⟨r, ys, _, rfl, rfl, n, ok.sub.nn n, upd_same, t⟩ h
end
end Tt

namespace Tt
open PySem PySem.Spec PyProof.Rows L2 PySem.W

/-! ### enumerate of a tuple, of a text -/
set_option maxHeartbeats 1000000 in
theorem meets_enum1 {v : Value} {o : Obj} {H : Heap → Prop} (B : Begins v o H) :
    Meets (Builtin.«enumerate.__new__» ⟨[.type "enumerate", v], []⟩) (fun _ R s => H s.heap ∧
      R (.ok (.ret (.ref (s.heap.push o).objs.size))) { s with heap := (s.heap.push o).push { cls := .type "enumerate", data := .fields #[.none, .bool false, .ref s.heap.objs.size, rawInt 0, .none, .none] } }) :=
  .of_wp fun prog w A R s h => by
    obtain ⟨hp, g, d, tk, os⟩ := s; obtain ⟨h1, h⟩ := h
    have hsub := sub_enumerate
    have q1 : ∀ {A' : Around} {E : Value → Shared → Prop} {Q : Value → Shared → Prop}, Q (.ref hp.objs.size) ⟨hp.push o, g, d, tk, os⟩ → wpAny (model prog w) A' (pyIter v) Q E ⟨hp, g, d, tk, os⟩ :=
      fun q => B.iter prog w _ _ ⟨hp, g, d, tk, os⟩ _ h1 q
    wp_walk using q1
    refine wpAny_stack_any fun st => wpAny_pure ?_
    split
    · rename_i c _ _ _ _ _
      cases (c == Value.type "enumerate")
      · wp_walk using q1
        exact ⟨_, rfl, h⟩
      · wp_walk using q1
        exact ⟨_, rfl, h⟩
    · wp_walk using q1
      exact ⟨_, rfl, h⟩
section
variable {prog : Program} {w : World} {A : Around} {E : Value → Shared → Prop} {s : Shared}
theorem enum1 {v : Value} {o : Obj} {H : Heap → Prop} {Q : Value → Shared → Prop} (B : Begins v o H) (h1 : H s.heap)
    (h : ∀ h', IsEnum h' (s.heap.objs.size + 1) s.heap.objs.size 0 .none → h'.get? s.heap.objs.size = some o → h'.objs.size = s.heap.objs.size + 2 →
      (∀ b o, s.heap.get? b = some o → h'.get? b = some o) → Q (.ref (s.heap.objs.size + 1)) { s with heap := h' }) :
    wpAny (model prog w) A (call (.type "enumerate") [v]) Q E s := by
  refine callType_new F.called_enumerate (by decide) (F.typeCall_enumerate_1 _) (F.newCall_enumerate_1 _) (fun obj => F.args_object_init_2 obj _) F.entry_enumerate_new (meets_enum1 B) ⟨h1, ?_⟩
  have hz : (s.heap.push o).objs.size = s.heap.objs.size + 1 := Heap.size_push ..
  show _ ∧ _
  rw [hz]
  have he : IsEnum ((s.heap.push o).push { cls := .type "enumerate", data := .fields #[.none, .bool false, .ref s.heap.objs.size, rawInt 0, .none, .none] }) (s.heap.objs.size + 1) s.heap.objs.size 0 .none := by
    have := Heap.get?_push_size (s.heap.push o) (o := { cls := .type "enumerate", data := .fields #[.none, .bool false, .ref s.heap.objs.size, rawInt 0, .none, .none] }) rfl
    rw [hz] at this; exact this
  refine ⟨⟨_, he, rfl⟩, h _ he (Heap.get?_push_of_some _ (Heap.get?_push_size _ B.free)) (by rw [Heap.size_push, hz]) fun b o x => Heap.get?_push_of_some _ (Heap.get?_push_of_some _ x)⟩
end
/-- the items f of a source G, each in a new pair with its number; n of them -/
def ItN (n : Nat) (G : Hp → Prop) (f : Nat → V → Prop) : It :=
  ⟨fun i H => G H ∧ i < n, fun i H v H' => ∃ T x, v = .ref T ∧ H T = none ∧ H' = upd H T (.tup [.int (i : Nat), x]) ∧ f i x, fun i H => G H ∧ n ≤ i⟩
/-- what an iterator draws, given by values -/
structure DrawV (P : Program) (w : World) (K : PySem.W.Frag) (n : Nat) (G : Hp → Prop) (f : Nat → V → Prop) (it : Addr) (St : Nat → Heap → Prop) : Prop where
  obj : ∀ i h, St i h → ∃ o, h.get? it = some o ∧ ∀ v, o.data ≠ .cell v
  keep : ∀ i h h', St i h → (∀ o, h.get? it = some o → h'.get? it = some o) → St i h'
  draws : ∀ (X : Cx), X.prog = P → X.w = w → X.K = K → X.calm = true → ∀ (i : Nat) (pins : List (Addr × Obj)) (s : Shared) (σ : L2.St) (H : Hp) (e : Addr) (oe : Obj), Inv X pins σ H s → St i s.heap → G H → s.heap.get? e = some oe → oe.cls = .type "enumerate" →
    ∃ (fp : List Addr) (Pv : Nat → Value → Prop) (S2 : Nat → Heap → Prop), Draws P w X.A.in1 it fp n Pv S2 ∧ S2 i s.heap ∧ e ∉ fp ∧ (∀ j h, S2 j h → St j h) ∧ ∀ j v, Pv j v → ∃ x, RelV x v ∧ f j x
theorem turn_enumV {P : Program} {w : World} {K : PySem.W.Frag} {elts : List Expr} {kk : Nat} {tpos : Pos} {n : Nat} {G : Hp → Prop} {f : Nat → V → Prop} {St : Nat → Heap → Prop} (e it : Addr) (D : DrawV P w K n G f it St) :
    Turn P w K (.Tuple elts kk tpos) (ItN n G f) [e, it] e (fun i h => (∃ old, IsEnum h e it ((i : Nat) : Int) old) ∧ St i h ∧ e ≠ it ∧ i ≤ n) where
  mem := by simp
  obj := fun i h st b hb => by
    obtain ⟨⟨old, he⟩, hs, _, _⟩ := st
    have e' : b = e ∨ b = it := by simpa using hb
    rcases e' with z | z
    · rw [z]; exact ⟨_, he, fun v q => nomatch q⟩
    · rw [z]; exact D.obj i h hs
  keep := fun i h h' st k => let ⟨⟨old, he⟩, hi, hne, hl⟩ := st; ⟨⟨old, k e (by simp) _ he⟩, D.keep i h h' hi fun o q => k it (by simp) o q, hne, hl⟩
  item := by
    intro X hP hw hK hc i pins s σ H E I hf st hg
    obtain ⟨⟨old, he⟩, hit, hne, hl⟩ := st
    obtain ⟨hG, hi⟩ := hg
    obtain ⟨fp, Pv, S2, Dr, s2, ef, back, val⟩ := D.draws X hP hw hK hc i pins s σ H e _ I hit hG he rfl
    subst hP hw hK
    have hel : e < s.heap.objs.size := Heap.lt_size he
    have hil : it < s.heap.objs.size := by obtain ⟨_, q⟩ := Dr.live _ _ s2; exact Heap.lt_size q
    refine wpAny_pyNext_enum_itemD Dr he s2 hi hne ef fun u h' tk pu ho hs' hT hsz hk => ?_
    refine ⟨_, rfl, wpAny_letOwnedTupleGo_enum (s := { s with heap := h', toks := tk + 1 }) ho fun h'' he' sb => ?_⟩
    obtain ⟨x, ru, fx⟩ := val i u pu
    have hT2 : h''.get? s.heap.objs.size = some { cls := .type "tuple", data := .seq #[.int i tk, u] } := (sb.2 _ (Nat.ne_of_gt hel)).trans hT
    have new : ObjOk X.prog X.w (upd H s.heap.objs.size (.tup [.int (i : Nat), x])) h'' s.heap.objs.size (.tup [.int (i : Nat), x]) :=
      ⟨by show 2 ≤ sizeLine; decide, [.int i tk, u], .cons ⟨_, rfl⟩ (.cons ru .nil), ⟨_, hT2, rfl, _, rfl⟩⟩
    have I1 : Inv X pins σ (upd H s.heap.objs.size (.tup [.int (i : Nat), x])) { s with heap := h'', toks := tk + 1 } :=
      I.turnedNew (ch := [e, it]) (fun b ob hb q => (sb.2 b (fun z => hb (by simp [z]))).trans (hk b ob (fun z => hb (by simp [z])) (fun z => hb (by simp [z])) q)) hf (Nat.le_refl _) new
    refine ⟨.ref s.heap.objs.size, _, I1, rfl, ⟨_, x, rfl, I.hok.fresh (Nat.le_refl _), rfl, fx⟩, ⟨⟨u, ?_⟩, D.keep _ _ _ (back _ _ hs') fun o q => (sb.2 it (Ne.symm hne)).trans q, hne, hi⟩, fun b hb => ?_⟩
    · have e1 : ((i + 1 : Nat) : Int) = (i : Int) + 1 := by omega
      rw [e1]; exact he'
    · have hb' : b < s.heap.objs.size := by
        have e' : b = e ∨ b = it := by simpa using hb
        rcases e' with z | z
        · rw [z]; exact hel
        · rw [z]; exact hil
      rw [upd_ne (Nat.ne_of_lt hb')]
      exact (hf b hb).1
  done := by
    intro X hP hw hK hc i pins s σ H E I hf st hg
    obtain ⟨⟨old, he⟩, hit, hne, hl⟩ := st
    obtain ⟨hG, hi⟩ := hg
    obtain ⟨fp, Pv, S2, Dr, s2, ef, back, val⟩ := D.draws X hP hw hK hc i pins s σ H e _ I hit hG he rfl
    subst hP hw hK
    obtain rfl : i = n := Nat.le_antisymm hl hi
    obtain ⟨f0, f1, f2, f3, f4, f5⟩ := hf it (by simp)
    exact wpAny_pyNext_enum_endD Dr he s2 fun h' eb => ⟨rfl, I.turned (t' := s.toks) (fun b o hb q => eb b o hb q) f0 f1 f3 f4 f5⟩
  self := fun A i s Q E st h => let ⟨⟨_, he⟩, _⟩ := st; wpAny_pyIter_enum he h
theorem drawV_tuple {P : Program} {w : World} {K : PySem.W.Frag} {a it : Addr} {xs : List V} : DrawV P w K xs.length (fun H => SqT K H a xs) (fun i x => xs[i]? = some x) it (fun i h => h.IsTupleIter it a i ∧ a ≠ it) where
  obj := fun i h st => by
    obtain ⟨⟨o, ho, hc, hd⟩, _⟩ := st
    exact ⟨o, ho, fun v q => by rw [hd] at q; cases q⟩
  keep := fun i h h' st k => ⟨st.1.at k, st.2⟩
  draws := by
    intro X hP hw hK hc i pins s σ H e oe I st hG he hce
    obtain ⟨hit, hne⟩ := st
    subst hP hw hK
    obtain ⟨its, rv, p, hz⟩ := I.tuple hG
    obtain ⟨o1, g1, c1, n1, d1⟩ := id p
    have l : its.toArray.size = xs.length := by rw [List.size_toArray, ← rv.length]
    have D := Draws.tuple (prog := X.prog) (w := X.w) (A := X.A.in1) (I.ok.hd hc) it a hne its.toArray
    rw [l] at D
    refine ⟨_, _, _, D, ⟨hit, p⟩, fun m => ?_, fun j h q => ⟨q.1, hne⟩, fun j v q => ?_⟩
    · obtain ⟨o2, g2, c2, d2⟩ := id hit
      rcases List.mem_cons.mp m with z | m
      · rw [z, g2] at he
        cases he
        rw [c2] at hce
        exact absurd (Value.type.inj hce) (by decide)
      · have z := List.mem_singleton.mp m
        rw [z, g1] at he
        cases he
        rw [c1] at hce
        exact absurd (Value.type.inj hce) (by decide)
    · have hl : j < its.length := by
        have := (Array.getElem?_eq_some_iff.mp q).1
        simpa using this
      have hx : j < xs.length := by rw [rv.length]; exact hl
      obtain ⟨u, hu, ru⟩ := rv.get (i := j) (x := xs[j]) (List.getElem?_eq_getElem hx)
      have : u = v := by
        have q' : its[j]? = some v := by simpa using q
        rw [hu] at q'
        exact Option.some.inj q'
      subst this
      exact ⟨xs[j], ru, List.getElem?_eq_getElem hx⟩
theorem drawV_text {P : Program} {w : World} {K : PySem.W.Frag} {it : Addr} {z : Str} {t : Tok} : DrawV P w K z.cps.size (fun _ => True) (fun i x => ∃ c, z.cps[i]? = some c ∧ x = .str ⟨#[c]⟩) it (fun i h => h.IsStrIter it (strIterType z) z t i) where
  obj := fun i h st => by
    obtain ⟨o, ho, hc, hd⟩ := st
    exact ⟨o, ho, fun v q => by rw [hd] at q; cases q⟩
  keep := fun i h h' st k => let ⟨o, ho, r⟩ := st; ⟨o, k o ho, r⟩
  draws := by
    intro X hP hw hK hc i pins s σ H e oe I st hG he hce
    subst hP hw hK
    refine ⟨_, _, _, Draws.text (prog := X.prog) (w := X.w) (A := X.A.in1) (I.ok.hd hc) it z t, st, fun m => ?_, fun j h q => q, fun j v q => ?_⟩
    · obtain ⟨o2, g2, c2, d2⟩ := id st
      have y := List.mem_singleton.mp m
      rw [y, g2] at he
      cases he
      rw [c2] at hce
      unfold strIterType at hce
      split at hce <;> exact absurd (Value.type.inj hce) (by decide)
    · obtain ⟨c, u, hcs, rfl⟩ := q
      exact ⟨.str ⟨#[c]⟩, ⟨_, rfl⟩, c, hcs, rfl⟩
def iEnumT (K : PySem.W.Frag) (ta : TA) : TI := fun σ H R => ta σ H fun vs H1 => ∃ a xs, vs = [.ref a] ∧ SqT K H1 a xs ∧ R (ItN xs.length (fun H => SqT K H a xs) fun i x => xs[i]? = some x) H1
def iEnumS (ta : TA) : TI := fun σ H R => ta σ H fun vs H1 => ∃ z, vs = [.str z] ∧ R (ItN z.cps.size (fun _ => True) fun i x => ∃ c, z.cps[i]? = some c ∧ x = .str ⟨#[c]⟩) H1
section
variable {X : Cx} {e : Expr} {ta : TA} {p pos tpos : Pos} {elts : List Expr} {kk : Nat}
theorem pi_enumT (hg : Gl X "enumerate") (hm : X.mg "enumerate" = none) (ha : PA X [e] ta) (hs : starEach [e] X.env = [(false, eval e X.env)] := by rfl) :
    PI X (.Tuple elts kk tpos) (.Call (.Name "enumerate" p) [e] [] pos) (iEnumT X.K ta) := by
  refine ⟨fun pins s σ H R I h => ?_⟩
  refine Call_ (ld_blt I hg hm boot_enumerate (PyProof.Rows.callWith_type1 (thn (ha.run pos pins s σ H _ I h) fun us s1 ⟨vs, H1, I1, r1, q1⟩ => ?_) hs rfl))
  obtain ⟨a, xs, ex, hq, q⟩ := q1
  subst ex
  obtain ⟨u, rfl, r⟩ := vals1 r1
  cases r
  obtain ⟨its, rv, p', hz⟩ := I1.tuple hq
  have al : a < s1.heap.objs.size := let ⟨_, g, _⟩ := p'; Heap.lt_size g
  refine enum1 (begins_tuple a its.toArray) p' fun h' he hit hsz hk => wpAny_pyIter_enum he ?_
  have I2 : Inv X pins σ H1 { s1 with heap := h' } := I1.kept (t' := s1.toks) hk
  refine ⟨s1.heap.objs.size + 1, [s1.heap.objs.size + 1, s1.heap.objs.size], _, _, H1, rfl, I2, turn_enumV (s1.heap.objs.size + 1) s1.heap.objs.size drawV_tuple, ⟨⟨.none, he⟩, ⟨⟨_, hit, rfl, rfl⟩, Nat.ne_of_lt al⟩, Nat.succ_ne_self _, Nat.zero_le _⟩, fun b hb => ?_, q⟩
  have e' : b = s1.heap.objs.size + 1 ∨ b = s1.heap.objs.size := by simpa using hb
  have hle : s1.heap.objs.size ≤ b := by
    rcases e' with z | z
    · rw [z]; exact Nat.le_add_right _ _
    · rw [z]; exact Nat.le_refl _
  exact I1.fpOk hle (I1.hok.fresh hle)
theorem pi_enumS (hg : Gl X "enumerate") (hm : X.mg "enumerate" = none) (ha : PA X [e] ta) (hs : starEach [e] X.env = [(false, eval e X.env)] := by rfl) :
    PI X (.Tuple elts kk tpos) (.Call (.Name "enumerate" p) [e] [] pos) (iEnumS ta) := by
  refine ⟨fun pins s σ H R I h => ?_⟩
  refine Call_ (ld_blt I hg hm boot_enumerate (PyProof.Rows.callWith_type1 (thn (ha.run pos pins s σ H _ I h) fun us s1 ⟨vs, H1, I1, r1, q1⟩ => ?_) hs rfl))
  obtain ⟨z, ex, q⟩ := q1
  subst ex
  obtain ⟨u, rfl, r⟩ := vals1 r1
  obtain ⟨t, rfl⟩ := r
  refine enum1 (begins_text z t) trivial fun h' he hit hsz hk => wpAny_pyIter_enum he ?_
  have I2 : Inv X pins σ H1 { s1 with heap := h' } := I1.kept (t' := s1.toks) hk
  refine ⟨s1.heap.objs.size + 1, [s1.heap.objs.size + 1, s1.heap.objs.size], _, _, H1, rfl, I2, turn_enumV (s1.heap.objs.size + 1) s1.heap.objs.size (drawV_text (t := t)), ⟨⟨.none, he⟩, ⟨_, hit, rfl, rfl⟩, Nat.succ_ne_self _, Nat.zero_le _⟩, fun b hb => ?_, q⟩
  have e' : b = s1.heap.objs.size + 1 ∨ b = s1.heap.objs.size := by simpa using hb
  have hle : s1.heap.objs.size ≤ b := by
    rcases e' with z | z
    · rw [z]; exact Nat.le_add_right _ _
    · rw [z]; exact Nat.le_refl _
  exact I1.fpOk hle (I1.hok.fresh hle)
end
/-! as data -/
def enumD (ds : List D) : List D := (List.range ds.length).map fun i => .tuple [.int (i : Nat), ds.getD i .none]
theorem enumD_at {ds : List D} {i : Nat} {d : D} (h : ds[i]? = some d) : (enumD ds)[i]? = some (.tuple [.int (i : Nat), d]) := by
  have hl : i < ds.length := (List.getElem?_eq_some_iff.mp h).1
  unfold enumD
  rw [List.getElem?_map, List.getElem?_range hl]
  simp [List.getD_eq_getElem?_getD, h]
theorem enumD_len {ds : List D} : (enumD ds).length = ds.length := by simp [enumD]
theorem WalkD.enumN {K : PySem.W.Frag} {I : Hp} {n : Nat} {G : Hp → Prop} {f : Nat → V → Prop} {ds : List D} (hn : ds.length = n) (hG : ∀ H, Sub I H → G H) (hf : ∀ i x, i < n → f i x → ∃ d, ds[i]? = some d ∧ Dq I x d) : WalkD K (ItN n G f) I (enumD ds) := ⟨by
  rw [enumD_len, hn]
  refine ⟨fun i H hi s => ⟨hG H s, hi⟩, fun H s => ⟨hG H s, Nat.le_refl _⟩, fun i H v H' hi s y => ?_⟩
  obtain ⟨T, x, rfl, nT, rfl, fx⟩ := y
  obtain ⟨d, hd, r⟩ := hf i x hi fx
  refine ⟨_, enumD_at hd, fun I1 ii s1 => ?_⟩
  have g := Grow.new (o := .tup [.int (i : Nat), x]) s1 nT
  exact ⟨_, g, Rv.mkT upd_same (.cons (.int _) (.cons (Dq.same (ii.trans g.ii) r) .nil))⟩⟩
section
variable {X : Cx} {m : Bool} {ρ ρ1 : List Sl} {W : Wx} {e : Expr} {p pos tpos : Pos} {elts : List Expr} {kk : Nat} {Q : List D → List Sl → Prop}
theorem im_enumT (hm : X.mg "enumerate" = none) (h : EM m X e ρ W fun _ d ρ1 => ∃ ds, d = .tuple ds ∧ Q (enumD ds) ρ1) (hg : Gl X "enumerate" := by rfl) (hs : starEach [e] X.env = [(false, eval e X.env)] := by rfl) : IM m X (.Tuple elts kk tpos) (.Call (.Name "enumerate" p) [e] [] pos) ρ W Q := fun σ I H ok xk R f =>
  ⟨_, pi_enumT hg hm (pa_cons pe_w pa_nil hs) hs, h.run ok xk fun v o d ρ1 I1 H1 g r ⟨ds, e, q⟩ => by
    subst e
    obtain ⟨a, xs, rfl, ha, t⟩ := r.tup
    exact ⟨a, xs, rfl, SqT.of ((g.env ok).sub.tup ha), f _ _ ρ1 I1 H1 g (.enumN t.len.symm (fun H s => SqT.of (s.tup ha)) fun i x hi hx => t.getV hx) q⟩⟩
theorem im_enumS (hm : X.mg "enumerate" = none) (h : EM m X e ρ W fun _ d ρ1 => ∃ z, d = .str z ∧ Q (enumD (chars z)) ρ1) (hg : Gl X "enumerate" := by rfl) (hs : starEach [e] X.env = [(false, eval e X.env)] := by rfl) : IM m X (.Tuple elts kk tpos) (.Call (.Name "enumerate" p) [e] [] pos) ρ W Q := fun σ I H ok xk R f =>
  ⟨_, pi_enumS hg hm (pa_cons pe_w pa_nil hs) hs, h.run ok xk fun v o d ρ1 I1 H1 g r ⟨z, e, q⟩ => by
    subst e
    exact ⟨z, by rw [r.str], f _ _ ρ1 I1 H1 g (.enumN (by simp [chars]) (fun H s => trivial) fun i x hi ⟨c, hc, ex⟩ => ⟨.str ⟨#[c]⟩, by simp [chars, hc], by rw [ex]; exact .str _⟩) q⟩⟩
theorem im_enumL (hm : X.mg "enumerate" = none) (h : EM m X e ρ W fun _ d ρ1 => ∃ ds, d = .list ds ∧ Q (enumD ds) ρ1) (hg : Gl X "enumerate" := by rfl) (hs : starEach [e] X.env = [(false, eval e X.env)] := by rfl) : IM m X (.Tuple elts kk tpos) (.Call (.Name "enumerate" p) [e] [] pos) ρ W Q := fun σ I H ok xk R f =>
  ⟨_, pi_enum hg hm (pa_cons pe_w pa_nil hs) hs, h.run ok xk fun v o d ρ1 I1 H1 g r ⟨ds, e, q⟩ => by
    subst e
    obtain ⟨a, xs, rfl, ha, t⟩ := r.lst
    refine ⟨a, xs, rfl, SqL.of ((g.env ok).sub.lst ha), f _ _ ρ1 I1 H1 g ⟨?_⟩ q⟩
    rw [enumD_len, ← t.len]
    refine walk_enum.mono (fun H s => SqL.of (s.lst ha)) fun i H v H' hi s y => ?_
    obtain ⟨T, x, x2, rfl, nT, rfl, e1, e2⟩ := y
    cases e1
    obtain ⟨d, hd, r⟩ := t.getV e2
    refine ⟨_, enumD_at hd, fun I1' ii s1 => ?_⟩
    have g := Grow.new (o := .tup [.int (i : Nat), x2]) s1 nT
    exact ⟨_, g, Rv.mkT upd_same (.cons (.int _) (.cons (Dq.same (ii.trans g.ii) r) .nil))⟩⟩
end
end Tt

namespace Tt
open PySem PySem.Spec PyProof.Rows L2 PySem.W
section
variable {X : Cx} {m : Bool} {ρ ρ1 : List Sl} {W : Wx} {a b e : Expr} {p pos tpos : Pos} {elts : List Expr} {kk : Nat}
/-- {'z': True} -/
theorem vm_dk1 {z : Str} {j1 j2} {p1 p2 : Pos} {QV : Sl → List Sl → Prop} (h : ∀ p, QV (.mo p (.dk [z])) ρ) : VM m X (.Dict [some (.Constant (.str z) j1 p1)] [.Constant (.bool true) j2 p2] pos) ρ W QV := fun σ I H ok xk R f =>
  ⟨_, pe_disp (pps_cons pe_str pe_bl pps_nil) rfl rfl (by simp) (by simp), fun p np => ⟨upd_same, [(Sum.inr z, V.bl true)], rfl, by simp, by
    rw [upd_upd]
    have g := Grow.dark (o := dictO [z]) ok.sub np
    exact f _ (.mo p (.dk [z])) ρ _ _ (Go.of ok g) ⟨⟨rfl, _, upd_same, rfl⟩, List.pairwise_singleton _ _, fun a z => by rw [List.mem_singleton.mp z]; exact ⟨np, ok.sub.nn np⟩⟩ (h p)⟩⟩
/-! zip of two lists -/
def zipD (ds es : List D) : List D := (List.range (min ds.length es.length)).map fun i => .tuple [ds.getD i .none, es.getD i .none]
theorem zipD_len {ds es : List D} : (zipD ds es).length = min ds.length es.length := by simp [zipD]
theorem zipD_at {ds es : List D} {i : Nat} {d e : D} (h : ds[i]? = some d) (h2 : es[i]? = some e) : (zipD ds es)[i]? = some (.tuple [d, e]) := by
  have hl : i < ds.length := (List.getElem?_eq_some_iff.mp h).1
  have hl2 : i < es.length := (List.getElem?_eq_some_iff.mp h2).1
  unfold zipD
  rw [List.getElem?_map, List.getElem?_range (by omega)]
  simp [List.getD_eq_getElem?_getD, h, h2]
theorem im_zipL {Q : List D → List Sl → Prop} (hm : X.mg "zip" = none) (h : AM m X [a, b] ρ W fun vs ρ1 => ∃ ds es, vs = [.list ds, .list es] ∧ Q (zipD ds es) ρ1) (hg : Gl X "zip" := by rfl)
    (hs : starEach [a, b] X.env = (false, eval a X.env) :: starEach [b] X.env := by rfl) (hpl : (backTo pos (starEach [b] X.env)).any (·.1) = false := by rfl) : IM m X (.Tuple elts kk tpos) (.Call (.Name "zip" p) [a, b] [] pos) ρ W Q := fun σ I H ok xk R f =>
  ⟨_, pi_zip hg hm pa_w hs hpl, h σ I H ok xk _ fun vs ds ρ1 I1 H1 g r ⟨ds, es, e, q⟩ => by
    subst e
    cases r with
    | cons r1 r =>
      cases r with
      | cons r2 r =>
        cases r
        obtain ⟨a1, xs, rfl, ha, t⟩ := r1.lst
        obtain ⟨a2, ys, rfl, hb, t2⟩ := r2.lst
        refine ⟨a1, a2, xs, ys, rfl, SqL.of ((g.env ok).sub.lst ha), SqL.of ((g.env ok).sub.lst hb), f _ _ ρ1 I1 H1 g ⟨?_⟩ q⟩
        rw [zipD_len, ← t.len, ← t2.len]
        refine (walk_zip (xs := xs) (ys := ys) rfl).mono (fun H s => ⟨SqL.of (s.lst ha), SqL.of (s.lst hb)⟩) fun i H v H' hi s y => ?_
        obtain ⟨T, x, x2, rfl, nT, rfl, e1, e2⟩ := y
        obtain ⟨d, hd, r⟩ := t.getV e1
        obtain ⟨d2, hd2, r2⟩ := t2.getV e2
        refine ⟨_, zipD_at hd hd2, fun I1' ii s1 => ?_⟩
        have g := Grow.new (o := .tup [x, x2]) s1 nT
        exact ⟨_, g, Rv.mkT upd_same (.cons (Dq.same (ii.trans g.ii) r) (.cons (Dq.same (ii.trans g.ii) r2) .nil))⟩⟩
/-! list(range(n)) -/
theorem em_listRg {Q : Bool → D → List Sl → Prop} (hc : X.calm = true) (hm : X.mg "list" = none) (hr : X.mg "range" = none) {p2 pos2 : Pos} (h : EM m X a ρ W fun _ d ρ1 => ∃ n : Nat, d = .int n ∧ n ≤ 16777216 ∧ Q true (.list (rngD 0 n)) ρ1) (hg : Gl X "list" := by rfl) (hg2 : Gl X "range" := by rfl) (na : starEach [a] X.env = (false, eval a X.env) :: starEach [] X.env := by rfl)
    (na2 : starEach [Expr.Call (.Name "range" p2) [a] [] pos2] X.env = (false, eval (Expr.Call (.Name "range" p2) [a] [] pos2) X.env) :: starEach [] X.env := by rfl) : EM m X (.Call (.Name "list" p) [.Call (.Name "range" p2) [a] [] pos2] [] pos) ρ W Q := fun σ I H ok xk R f =>
  ⟨_, pe_listRg hc hg hm (prg_1 hg2 hr pe_w na) na2, h.run ok xk fun v _ d ρ1 I1 H1 g1 r1 ⟨n, e, hn, q⟩ => by
    subst e
    rw [r1.int]
    refine ⟨(n : Int), rfl, .of_le (Int.le_refl 0) (by omega) (by omega) (by omega), fun q' nq => ?_⟩
    have e2 : rgV 0 (n : Int) = (rgV 0 (n : Int)) := rfl
    have t : DqAll I1 (rgV 0 (n : Int)) (rngD 0 n) := by
      unfold rgV rngD
      have : ((n : Int) - 0).toNat = n := by omega
      rw [this]
      have : ∀ l : List Nat, DqAll I1 (l.map fun i => V.int (0 + (i : Nat))) (l.map fun (i : Nat) => PyData.int (0 + (i : Int))) := by
        intro l
        induction l with
        | nil => exact .nil
        | cons x l ih => exact .cons (.int _) ih
      exact this _
    have gr := Grow.dark (o := .lst (rgV 0 (n : Int))) (g1.env ok).sub nq
    exact f _ true _ ρ1 I1 _ (g1.grow ok gr) ⟨q', _, _, rfl, rfl, g1.nn q' nq, (g1.env ok).sub.nn nq, upd_same, t⟩ q⟩
end
end Tt

namespace Tt
open PySem PySem.Spec PyProof.Rows L2 PySem.W
/-! ### a list of two lists of one's own -/
theorem EnvOk.atLL {K : PySem.W.Frag} {I H : Hp} {σ : L2.St} {ρ : List Sl} {i : Nat} {p p1 p2 : Addr} {d1 d2 : List D} (ok : EnvOk K I H σ ρ) (h : ρ[i]? = some (.ll p [p1, p2] [.lst d1, .lst d2])) :
    ∃ x1 x2, σ[i]? = some (some (.ref p)) ∧ H p = some (.lst [.ref p1, .ref p2]) ∧ H p1 = some (.lst x1) ∧ H p2 = some (.lst x2) ∧ DqAll I x1 d1 ∧ DqAll I x2 d2 ∧ p ≠ p1 ∧ p ≠ p2 ∧ p1 ≠ p2 ∧ I p = none ∧ I p1 = none ∧ I p2 = none := by
  obtain ⟨v, hv, rfl, hp, pr⟩ := ok.at h (fun z => nomatch z)
  have fi : ft ρ i = [p, p1, p2] := ft_at h
  have nd := ok.nd i
  rw [fi] at nd
  simp only [List.nodup_cons, List.mem_cons, List.not_mem_nil, or_false, not_or, not_false_eq_true, and_true] at nd
  have o := fun a (m : a ∈ [p, p1, p2]) => ok.out i a (by rw [fi]; exact m)
  cases pr with
  | cons h1 t =>
    cases t with
    | cons h2 t =>
      obtain ⟨o1, e1, x1, rfl, t1⟩ := h1
      obtain ⟨o2, e2, x2, rfl, t2⟩ := h2
      exact ⟨x1, x2, hv, hp, e1, e2, t1, t2, nd.1.1, nd.1.2, nd.2.1, o p (by simp), o p1 (by simp), o p2 (by simp)⟩
theorem EnvOk.freezeLL {K : PySem.W.Frag} {I H : Hp} {σ : L2.St} {ρ : List Sl} {i : Nat} {p p1 p2 : Addr} {d1 d2 : List D} (ok : EnvOk K I H σ ρ) (h : ρ[i]? = some (.ll p [p1, p2] [.lst d1, .lst d2])) :
    ∃ J, Same I J ∧ EnvOk K J H σ (ρ.set i (.va (.list [.list d1, .list d2]))) ∧ ∀ a, J a ≠ none → I a = none → Mt ρ a := by
  obtain ⟨x1, x2, hv, hp, h1, h2, t1, t2, n1, n2, n3, o0, o1, o2⟩ := ok.atLL h
  have hl : i < ρ.length := (List.getElem?_eq_some_iff.mp h).1
  have fi : ft ρ i = [p, p1, p2] := ft_at h
  have ij : Same I (upd (upd (upd I p1 (.lst x1)) p2 (.lst x2)) p (.lst [.ref p1, .ref p2])) := fun a o e => by
    rw [upd_ne (ne_of_none e o0), upd_ne (ne_of_none e o2), upd_ne (ne_of_none e o1)]
    exact e
  have fs : ∀ j a, a ∈ ft (ρ.set i (.va (.list [.list d1, .list d2]))) j → a ∈ ft ρ j ∧ j ≠ i := fun j a hj => by
    rw [ft_set] at hj
    split at hj
    · cases hj
    · rename_i z
      refine ⟨hj, fun e => ?_⟩
      subst e
      exact z ⟨rfl, hl⟩
  have far : ∀ j a, a ∈ ft ρ j → j ≠ i → a ≠ p ∧ a ≠ p1 ∧ a ≠ p2 := fun j a hj ne => ⟨fun e => ne (ok.dj j i a hj (by rw [fi, e]; simp)), fun e => ne (ok.dj j i a hj (by rw [fi, e]; simp)), fun e => ne (ok.dj j i a hj (by rw [fi, e]; simp))⟩
  refine ⟨_, ij, ⟨by rw [List.length_set]; exact ok.len, fun j s e => ?_, fun j => ?_, fun j k a q1 q2 => ok.dj j k a (fs j a q1).1 (fs k a q2).1, fun j a q1 => ?_, fun a o e => ?_⟩, fun a q1 q2 => ?_⟩
  · by_cases z : i = j
    · subst z
      rw [List.getElem?_set_self hl] at e
      cases e
      rw [hv]
      refine Rv.mkL upd_same (.cons (.lst (xs := x1) ?_ (DqAll.same ij t1)) (.cons (.lst (xs := x2) ?_ (DqAll.same ij t2)) .nil))
      · rw [upd_ne (Ne.symm n1), upd_ne n3, upd_same]
      · rw [upd_ne (Ne.symm n2), upd_same]
    · rw [List.getElem?_set_ne z] at e
      exact (ok.ok j s e).grow ij fun _ _ _ e => e
  · rw [ft_set]
    split
    · exact List.nodup_nil
    · exact ok.nd j
  · obtain ⟨m, ne⟩ := fs j a q1
    obtain ⟨f1, f2, f3⟩ := far j a m ne
    rw [upd_ne f1, upd_ne f3, upd_ne f2]
    exact ok.out j a m
  · by_cases z : a = p
    · subst z
      rw [upd_same] at e
      cases e
      exact .inl hp
    · rw [upd_ne z] at e
      by_cases z2 : a = p2
      · subst z2
        rw [upd_same] at e
        cases e
        exact .inl h2
      · rw [upd_ne z2] at e
        by_cases z1 : a = p1
        · subst z1
          rw [upd_same] at e
          cases e
          exact .inl h1
        · rw [upd_ne z1] at e
          exact ok.sub a o e
  · refine ⟨i, ?_⟩
    rw [fi]
    apply Decidable.byContradiction
    intro m
    simp only [List.mem_cons, List.not_mem_nil, or_false, not_or] at m
    rw [upd_ne m.1, upd_ne m.2.2, upd_ne m.2.1] at q1
    exact q1 q2
section
variable {X : Cx} {m : Bool} {ρ ρ1 : List Sl} {W : Wx} {a b c e : Expr} {es : List Expr} {pos p' : Pos} {σ : L2.St} {I H I1 H1 : Hp} {E : DE} {Q : Bool → D → List Sl → Prop} {ss : List Stmt} {st : Stmt}
theorem sd_freezeLL (i : Nat) {p p1 p2 : Addr} {d1 d2 : List D} (h0 : ρ[i]? = some (.ll p [p1, p2] [.lst d1, .lst d2])) (h : SD X ss (ρ.set i (.va (.list [.list d1, .list d2]))) W E) : SD X ss ρ W E := fun σ I H ok xk T k => by
  obtain ⟨J, ij, ok', hq⟩ := ok.freezeLL h0
  have mts : ∀ a, Mt (ρ.set i (.va (.list [.list d1, .list d2]))) a → Mt ρ a := fun a m => (mt_set m).elim id fun z => by cases z
  have st : Step I H (Mt ρ) J H (Mt (ρ.set i (.va (.list [.list d1, .list d2])))) := ⟨ij, fun _ _ e _ => e, fun a o e n nm => by
    cases z : J a with
    | none => rfl
    | some u => exact absurd (hq a (by rw [z]; exact fun z => nomatch z) n) nm, fun a m => .inl (mts a m), fun a o e => ⟨o, e⟩⟩
  exact h σ J H ok' (xk.step st) T (k.step st)
theorem tm_viewLL (i : Nat) {p p1 p2 : Addr} {d1 d2 : List D} {QT : Bool → List Sl → Prop} (h0 : ρ[i]? = some (.ll p [p1, p2] [.lst d1, .lst d2])) (h : TM true X e (ρ.set i (.va (.list [.list d1, .list d2]))) W fun x _ => QT x ρ) : TM m X e ρ W QT := fun σ I H ok xk R k => by
  obtain ⟨J, ij, ok', hq⟩ := ok.freezeLL h0
  have mts : ∀ a, Mt (ρ.set i (.va (.list [.list d1, .list d2]))) a → Mt ρ a := fun a m => (mt_set m).elim id fun z => by cases z
  have st : Step I H (Mt ρ) J H (Mt (ρ.set i (.va (.list [.list d1, .list d2])))) := ⟨ij, fun _ _ e _ => e, fun a o e n nm => by
    cases z : J a with
    | none => rfl
    | some u => exact absurd (hq a (by rw [z]; exact fun z => nomatch z) n) nm, fun a m => .inl (mts a m), fun a o e => ⟨o, e⟩⟩
  refine h σ J H ok' (xk.step st) R fun x ρ' I' H' g q => ?_
  obtain ⟨_, g⟩ := g
  exact k x ρ I H' (Go.of ok ⟨Same.refl I, g.hh, Sub.same (ij.trans g.ii) g.sub, fun _ _ _ n => n⟩) q
/-- [[], []] -/
theorem vm_LL {q1 q2 : Pos} {QV : Sl → List Sl → Prop} (h : ∀ p p1 p2, QV (.ll p [p1, p2] [.lst [], .lst []]) ρ) (hs1 : starEach [Expr.List [] q1, Expr.List [] q2] X.env = (false, eval (Expr.List [] q1) X.env) :: starEach [Expr.List [] q2] X.env := by rfl)
    (hs2 : starEach [Expr.List [] q2] X.env = (false, eval (Expr.List [] q2) X.env) :: starEach [] X.env := by rfl) : VM m X (.List [.List [] q1, .List [] q2] pos) ρ W QV := fun σ I H ok xk R f =>
  ⟨_, pe_lst (pa_cons (pe_lst pa_nil) (pa_cons (pe_lst pa_nil) pa_nil hs2) hs1), ⟨by simp, fun p1 n1 => ⟨by simp, fun p2 n2 => ⟨by simp; exact small_line (by decide), fun p n => by
    have hp21 : p2 ≠ p1 := fun z => by subst z; rw [upd_same] at n2; cases n2
    have n2' : H p2 = none := by rwa [upd_ne hp21] at n2
    have hp2 : p ≠ p2 := fun z => by subst z; rw [upd_same] at n; cases n
    rw [upd_ne hp2] at n
    have hp1 : p ≠ p1 := fun z => by subst z; rw [upd_same] at n; cases n
    rw [upd_ne hp1] at n
    have g1 := Grow.dark (o := .lst []) ok.sub n1
    have g2 := Grow.dark (o := .lst []) g1.sub n2
    have g3 := Grow.dark (o := .lst [.ref p1, .ref p2]) g2.sub (show upd (upd H p1 (.lst [])) p2 (.lst []) p = none by rw [upd_ne hp2, upd_ne hp1]; exact n)
    refine f _ (.ll p [p1, p2] [.lst [], .lst []]) ρ _ _ (Go.of ok ((g1.trans g2).trans g3)) ⟨⟨rfl, upd_same, .cons ⟨_, ?_, [], rfl, .nil⟩ (.cons ⟨_, ?_, [], rfl, .nil⟩ .nil)⟩, ?_, fun a z => ?_⟩ (h p p1 p2)
    · rw [upd_ne (Ne.symm hp1), upd_ne (Ne.symm hp21), upd_same]
    · rw [upd_ne (Ne.symm hp2), upd_same]
    · show [p, p1, p2].Nodup
      simp [hp1, hp2, Ne.symm hp21]
    · have z : a ∈ [p, p1, p2] := z
      simp only [List.mem_cons, List.not_mem_nil, or_false] at z
      rcases z with rfl | rfl | rfl
      · exact ⟨n, ok.sub.nn n⟩
      · exact ⟨n1, ok.sub.nn n1⟩
      · exact ⟨n2', ok.sub.nn n2'⟩⟩⟩⟩⟩
theorem mutLL {k : Bool} {i : Nat} {p p1 p2 : Addr} {d1 d2 e1 e2 : List D} {xs : List V} (ok : EnvOk X.K I H σ ρ) (h : ρ[i]? = some (.ll p [p1, p2] [.lst d1, .lst d2])) (he : if k = true then e1 = d1 ∧ DqAll I xs e2 else DqAll I xs e1 ∧ e2 = d2) :
    Go false X.K σ ρ I H (ρ.set i (.ll p [p1, p2] [.lst e1, .lst e2])) I (upd H (if k = true then p2 else p1) (.lst xs)) := by
  obtain ⟨x1, x2, hv, hp, h1, h2, t1, t2, n1, n2, n3, o0, o1, o2⟩ := ok.atLL h
  have hl : i < ρ.length := (List.getElem?_eq_some_iff.mp h).1
  have fi : ft ρ i = [p, p1, p2] := ft_at h
  generalize hq : (if k = true then p2 else p1) = q
  have qi : q ∈ ft ρ i := by rw [fi, ← hq]; split <;> simp
  have nI : I q = none := ok.out i q qi
  have fs : ∀ j, ft (ρ.set i (.ll p [p1, p2] [.lst e1, .lst e2])) j = ft ρ j := fun j => by
    rw [ft_set]
    split
    · rename_i z
      rw [← z.1, fi]
      rfl
    · rfl
  have mts : ∀ a, Mt (ρ.set i (.ll p [p1, p2] [.lst e1, .lst e2])) a → Mt ρ a := fun a ⟨j, hj⟩ => ⟨j, by rw [← fs j]; exact hj⟩
  have pq : p ≠ q := by rw [← hq]; split; exact n2; exact n1
  have hq' : ∃ o, H q = some o := by rw [← hq]; split; exact ⟨_, h2⟩; exact ⟨_, h1⟩
  refine ⟨⟨by rw [List.length_set]; exact ok.len, fun j s e => ?_, fun j => by rw [fs]; exact ok.nd j, fun j k a q1 q2 => ok.dj j k a (by rw [← fs j]; exact q1) (by rw [← fs k]; exact q2), fun j a q1 => ok.out j a (by rw [← fs j]; exact q1), fun a u' e => ?_⟩, ⟨Same.refl I, fun a u' e n => ?_, fun _ _ _ n _ => n, fun a m => .inl (mts a m), fun a u' e => ?_⟩, mts⟩
  · by_cases z : i = j
    · subst z
      rw [List.getElem?_set_self hl] at e
      cases e
      rw [hv]
      refine ⟨rfl, by rw [upd_ne pq]; exact hp, ?_⟩
      cases k with
      | true =>
        rw [if_pos rfl] at he hq
        obtain ⟨rfl, he⟩ := he
        subst hq
        exact .cons ⟨_, by rw [upd_ne n3]; exact h1, x1, rfl, t1⟩ (.cons ⟨_, upd_same, xs, rfl, he⟩ .nil)
      | false =>
        rw [if_neg Bool.false_ne_true] at he hq
        obtain ⟨he, rfl⟩ := he
        subst hq
        exact .cons ⟨_, upd_same, xs, rfl, he⟩ (.cons ⟨_, by rw [upd_ne (Ne.symm n3)]; exact h2, x2, rfl, t2⟩ .nil)
    · rw [List.getElem?_set_ne z] at e
      refine (ok.ok j s e).grow (Same.refl I) fun a u' ha e2 => ?_
      rw [upd_ne]
      · exact e2
      · intro z2
        subst z2
        exact z (ok.dj i j a qi (by rw [ft_at e]; exact ha))
  · rw [upd_ne (ne_of_none e nI)]
    exact ok.sub a u' e
  · rw [upd_ne]
    · exact e
    · intro z
      subst z
      exact n ⟨i, qi⟩
  · by_cases z : a = q
    · subst z
      exact ⟨_, upd_same⟩
    · exact ⟨u', by rw [upd_ne z]; exact e⟩
/-- x[b].append(e) -/
theorem em_appendLL (i : Nat) {x : Str} {p p1 p2 : Addr} {ms0 : List MO} {pn ps apos cpos : Pos} (h0 : ρ[i]? = some (.ll p [p1, p2] ms0)) (hix : PlainIx b)
    (h : EM false X b ρ W fun _ kk ρ2 => ∃ k : Bool, kk = .int (if k = true then 1 else 0) ∧ (∃ d1 d2, ρ2[i]? = some (.ll p [p1, p2] [.lst d1, .lst d2])) ∧ EM false X e ρ2 W fun _ y ρ3 => ∃ d1 d2, nd y = true ∧ ρ3[i]? = some (.ll p [p1, p2] [.lst d1, .lst d2]) ∧ d1.length < sizeLine ∧ d2.length < sizeLine ∧ Q false .none (ρ3.set i (.ll p [p1, p2] [.lst (if k = true then d1 else d1 ++ [y]), .lst (if k = true then d2 ++ [y] else d2)])))
    (hN : X.N[i]? = some x := by rfl) (hv : Vis X.env.scope x := by first | exact Or.inl rfl | exact Or.inr (Or.inl rfl) | exact Or.inr (Or.inr rfl))
    (hd : (x == ("__debug__" : Str)) = false := by decide) (hcd : (x == ("__classdict__" : Str)) = false := by decide)
    (hbase : attributeBase (.Subscript (.Name x pn) b ps) "append" X.env (eval (.Subscript (.Name x pn) b ps) X.env) = eval (.Subscript (.Name x pn) b ps) X.env := by rfl)
    (hfew : ((backTo cpos (starEach (e :: []) X.env)).all (fun x => !x.1) && (backToKw cpos (keywordEach [] X.env)).all (fun x => x.1.isSome)
      && decide ((e :: ([] : List Expr)).length + ([] : List Keyword).length + (if ([] : List Keyword).isEmpty then 0 else 1) < 30)) = true := by rfl)
    (hline : (apos.endLine == cpos.line) = true := by rfl) (hs : starEach [e] X.env = (false, eval e X.env) :: starEach [] X.env := by rfl) (hplain : (backTo cpos (starEach [] X.env)).any (·.1) = false := by rfl) :
    EM false X (.Call (.Attribute (.Subscript (.Name x pn) b ps) "append" apos) [e] [] cpos) ρ W Q := fun σ I H ok xk R f => by
  obtain ⟨v0, hσ, rfl, _⟩ := ok.at h0 (fun z => nomatch z)
  refine ⟨_, pe_bm PySem.F.plainAttrs_list PySem.F.slot_list_append PySem.F.type_list_append mt_append (pe_ix ix_list (pe_var hN hv hd hcd) pe_w hix) (pa_cons pe_w pa_nil hs) hbase hfew hline hs hplain, _, hσ, ?_⟩
  refine EM.run h ok xk fun v _ kk ρ2 I2 H2 g2 r2 ⟨k, ek, ⟨d1, d2, h2⟩, q2⟩ => ?_
  subst ek
  have ok2 := g2.env ok
  obtain ⟨x1, x2, hv2, hp, e1, e2, t1, t2, _⟩ := ok2.atLL h2
  rw [r2.int]
  refine ⟨p, _, _, .ref (if k = true then p2 else p1), rfl, rfl, SqL.of hp, ?_, ?_⟩
  · cases k <;> rfl
  have hk : H2 (if k = true then p2 else p1) = some (.lst (if k = true then x2 else x1)) := by cases k; exact e1; exact e2
  refine ⟨tyL hk, EM.run q2 ok2 (xk.step g2.step) fun u _ y ρ3 I3 H3 g3 r3 ⟨c1, c2, ny, h3, l1, l2, q3⟩ => ?_⟩
  have ok3 := g3.env ok2
  obtain ⟨y1, y2, hv3, hp3, f1, f2, s1, s2, _⟩ := ok3.atLL h3
  have hk3 : H3 (if k = true then p2 else p1) = some (.lst (if k = true then y2 else y1)) := by cases k; exact f1; exact f2
  have g := mutLL (k := k) (xs := (if k = true then y2 else y1) ++ [u]) (e1 := if k = true then c1 else c1 ++ [y]) (e2 := if k = true then c2 ++ [y] else c2) ok3 h3 (by
    cases k with
    | true => exact ⟨rfl, DqAll.app s2 (.cons (r3.dp ny) .nil)⟩
    | false => exact ⟨DqAll.app s1 (.cons (r3.dp ny) .nil), rfl⟩)
  refine ⟨_, _, u, rfl, rfl, hk3, ?_, f _ false _ _ _ _ ((g2.trans g3).trans g) Rv.mkNon q3⟩
  cases k with
  | true => show y2.length < _; rw [s2.len]; exact l2
  | false => show y1.length < _; rw [s1.len]; exact l1
/-- a, b, .. = e, a list -/
theorem s1_unpackL (ts : List Tg) {tgs : List Expr} {kt : Nat} {pt : Pos} (hc : X.calm = true) (hg : PGs X tgs (Tg.gs X.K ts)) (h : EM false X e ρ W fun _ d ρ1 => ∃ ds ρ2, d = .list ds ∧ Tg.puts ts ds ρ1 = some ρ2 ∧ E.nx ρ2) (hn : (assignEach tgs X.env).length = ts.length := by rfl) (hst : (assignEach tgs X.env).findIdx? (·.1) = none := by rfl)
    (hs : swapsWithSole [Expr.Tuple tgs kt pt] e pos.line X.env = pure false := by rfl) (hw : swappedStores [Expr.Tuple tgs kt pt] e X.env = pure none := by rfl) (h1 : List.map (fun x => x.snd) (assignEach [Expr.Tuple tgs kt pt] X.env) = [assign (Expr.Tuple tgs kt pt) X.env] := by rfl) : S1 X (.Assign [.Tuple tgs kt pt] e pos) ρ W E := fun σ I H ok xk T k =>
  ⟨_, ps_asg pe_w (pg_unl hc hg hn hst) hs hw h1, h.run ok xk fun v o d ρ1 I1 H1 g r ⟨ds, ρ2, ed, e2, q⟩ => by
    subst ed
    obtain ⟨a, xs, rfl, ha, t⟩ := r.lst
    obtain ⟨σ2, p2, q2⟩ := Tg.runs ts (g.env ok) t e2
    have st := g.step
    have z := q2 _ (k.nx σ2 ρ2 I1 H1 p2.env ⟨st.ii, st.oth, st.fr, fun a h => st.mm a (p2.mt a h), st.al⟩ q)
    exact ⟨a, xs, rfl, SqL.of ((g.env ok).sub.lst ha), z.1, z.2⟩⟩
end
end Tt

/-! Sets of texts: set(a list of texts), sorted(such a set). -/
namespace Tt
open PySem PySem.Spec PyProof.Rows L2 PySem.W

def keyS (e : Int × Value) : Str := match e.2 with | .str k _ => k | _ => ⟨#[]⟩
def GoodS (w : World) (e : Int × Value) : Prop := ∃ k tk, e.2 = Value.str k tk ∧ e.1 = hashStr w k
/-- the set at a holds just the texts l, each once; it can be walked -/
def SetS (w : World) (h : Heap) (a : Addr) (l : List Str) : Prop :=
  ∃ o es ep t, h.get? a = some o ∧ o.ExactSet ∧ o.data = .set es ep t ∧ (∀ e ∈ es.toList, GoodS w e) ∧ (es.toList.map keyS).Perm l ∧ l.Nodup ∧
    es.size < scanBound ∧ t.fits es.size = true ∧ Ris t.place.toList ∧ (w.params.followText "set-order" = true ∨ t.led = true)
section
variable {P : Program} {w : World} {h h' : Heap} {a : Addr} {l : List Str}
theorem SetS.at (R : SetS w h a l) (k : ∀ o, h.get? a = some o → h'.get? a = some o) : SetS w h' a l := by
  obtain ⟨o, es, ep, t, ho, r⟩ := R
  exact ⟨o, es, ep, t, k o ho, r⟩
theorem goodS_elems {es : List (Int × Value)} (g : ∀ e ∈ es, GoodS w e) : ElemsOf (PySem.strKind P w) es := fun e he => by
  obtain ⟨k, tk, h1, h2⟩ := g e he
  exact ⟨⟨k, by rw [h1]; exact PySem.strKind_is P w k tk, h2⟩, by rw [h1] <;> rfl⟩
theorem goodS_is {e : Int × Value} (g : GoodS w e) (k : Str) : (PySem.strKind P w).is k e.2 = true ↔ keyS e = k := by
  obtain ⟨k0, tk, h1, _⟩ := g
  unfold keyS
  rw [h1]
  show (Value.isStrOf k (.str k0 tk) = true) ↔ k0 = k
  simp [Value.isStrOf]
theorem goodS_mem {es : List (Int × Value)} (g : ∀ e ∈ es, GoodS w e) (k : Str) : k ∈ es.map keyS ↔ ∃ e ∈ es, (PySem.strKind P w).is k e.2 = true := by
  rw [List.mem_map]
  constructor
  · rintro ⟨e, he, q⟩
    exact ⟨e, he, (goodS_is (g e he) k).2 q⟩
  · rintro ⟨e, he, q⟩
    exact ⟨e, he, (goodS_is (g e he) k).1 q⟩
end
section
variable {P : Program} {w : World} {A : Around} {E : Value → Shared → Prop} {s : Shared} {a : Addr} {l : List Str}
theorem setS_tail {g : Bool → Sem Unit} (hg : ∀ (b : Bool) (s₁ : Shared) (Q' : Unit → Shared → Prop), Q' () s₁ → wpAny (model P w) A (g b) Q' E s₁)
    {o : Obj} {es : Array (Int × Value)} {ep : Nat} {t : SetTable} (ho : s.heap.get? a = some o) (hex : o.ExactSet) (hd : o.data = .set es ep t)
    {es1 : Array (Int × Value)} {t2 : SetTable} (g1 : ∀ e ∈ es1.toList, GoodS w e) (m1 : (es1.toList.map keyS).Perm l) (nd1 : l.Nodup)
    (hb1 : es1.size < scanBound) (hf2 : t2.fits es1.size = true) (hr : Ris t2.place.toList) (hl : w.params.followText "set-order" = true ∨ t2.led = true) {wasDummy : Bool} {R : Option Bool → Shared → Prop}
    (hR : ∀ h', Heap.SameBut a s.heap h' → SetS w h' a l → R (some true) { s with heap := h' }) :
    wpAny (model P w) A (do
        storeSet a es1 t2
        if (!wasDummy && t2.tooFull) = true then do
            g (relayAll t2 es1 (SetTable.grown es1.size)).2.2
            storeSet a (relayAll t2 es1 (SetTable.grown es1.size)).1 (relayAll t2 es1 (SetTable.grown es1.size)).2.1
            pure (some true)
          else pure (some true)) R E s := by
  refine wpAny_bind (wpAny_storeSet_of ho hd ?_ (fits_of_scanBound hb1))
  have ho1 := store_at (es' := es1) (t' := t2) ho hd
  have sb1 := Heap.SameBut.update s.heap a (Obj.putSet es1 t2)
  split
  · have pm := relayAll_perm t2 es1 (SetTable.grown es1.size)
    have hf3 := relayAll_fits t2 es1 (SetTable.grown es1.size)
    have hr3 := relayAll_ris t2 es1 (SetTable.grown es1.size)
    have hl3 := relayAll_led t2 es1 (SetTable.grown es1.size)
    generalize relayAll t2 es1 (SetTable.grown es1.size) = Z at pm hf3 hr3 hl3 ⊢
    obtain ⟨es2, t3, gave⟩ := Z
    dsimp only at pm hf3 hr3 hl3 ⊢
    have hsz : es2.size = es1.size := by rw [← Array.length_toList, pm.length_eq, Array.length_toList]
    have hb2 : es2.size < scanBound := by rw [hsz]; exact hb1
    refine wpAny_bind (hg _ _ _ ?_)
    refine wpAny_bind (wpAny_storeSet_of ho1 rfl ?_ (fits_of_scanBound hb2))
    have ho2 := store_at (es' := es2) (t' := t3) ho1 rfl
    refine wpAny_pure (hR _ (sb1.trans (Heap.SameBut.update _ a _)) ?_)
    exact ⟨_, es2, _, t3, ho2, hex, rfl, fun e he => g1 e (pm.mem_iff.mp he), (pm.map keyS).trans m1, nd1, hb2, hf3, hr3, hl.imp id fun z => by rw [hl3]; exact z⟩
  · exact wpAny_pure (hR _ sb1 ⟨_, es1, _, t2, ho1, hex, rfl, g1, m1, nd1, hb1, hf2, hr, hl⟩)
theorem setS_add {k : Str} {tk : Tok} {Q : Bool → Shared → Prop} (R : SetS w s.heap a l) (room : l.length + 1 < scanBound)
    (hQ : ∀ b h', Heap.SameBut a s.heap h' → SetS w h' a (addS l k) → Q b { s with heap := h' }) :
    wpAny (model P w) A (setAddHashed a (.str k tk) ((PySem.strKind P w).hash k)) Q E s := by
  obtain ⟨o, es, ep, t, ho, hex, hd, g, hm, nd, hb, hf, hr, hl⟩ := R
  have hkey : (PySem.strKind P w).is k (.str k tk) = true := PySem.strKind_is P w k tk
  have hsc : (Value.str k tk).scannable = true := rfl
  have hel : ElemsOf (PySem.strKind P w) es.toList := goodS_elems g
  have hn : es.size = l.length := by rw [← Array.length_toList, ← hm.length_eq, List.length_map]
  unfold setAddHashed setAddHashedIn
  refine wpAny_holding (wpAny_bind (wpAny_setState_of ho hd hf ?_))
  dsimp only
  rw [byScan_of hsc hb hel]
  simp only [↓reduceIte]
  unfold setAddByScan
  refine wpAny_bind ?_
  refine wpAny_bind (wpAny_rule ?_)
  refine wpAny_bind (wpAny_setScan_of hkey ho hd hf hel ?_)
  cases hfi : List.findIdx? (fun e => (PySem.strKind P w).is k e.2) es.toList with
  | some j =>
    dsimp only
    obtain ⟨hj, pj, _⟩ := List.findIdx?_eq_some_iff_getElem.mp hfi
    have hk : k ∈ l := hm.mem_iff.mp ((goodS_mem (P := P) (w := w) g k).2 ⟨es.toList[j], List.getElem_mem hj, pj⟩)
    refine wpAny_pure (wpAny_pure ?_)
    refine hQ _ s.heap (Heap.SameBut.refl a s.heap) ?_
    unfold addS
    rw [if_pos hk]
    exact ⟨o, es, ep, t, ho, hex, hd, g, hm, nd, hb, hf, hr, hl⟩
  | none =>
    dsimp only
    have hnk : k ∉ l := fun z => by
      obtain ⟨e, he, q⟩ := (goodS_mem (P := P) (w := w) g k).1 (hm.mem_iff.mpr z)
      have c := List.findIdx?_eq_none_iff.mp hfi e he
      rw [q] at c
      cases c
    have hgw : ∀ (b : Bool) {s₁ : Shared} {Q' : Unit → Shared → Prop}, Q' () s₁ → wpAny (model P w) A (match b with | true => rule "set.scan.the-table-gave-way" | false => pure ()) Q' E s₁ :=
      fun b s₁ Q' q => by cases b <;> first | exact wpAny_pure q | exact wpAny_rule q
    have pm := layNew_perm t es ((PySem.strKind P w).hash k) (.str k tk)
    have hf1 := layNew_fits t es ((PySem.strKind P w).hash k) (.str k tk)
    have hr1 := layNew_ris t es ((PySem.strKind P w).hash k) (.str k tk) hr
    have hl1 := layNew_led t es ((PySem.strKind P w).hash k) (.str k tk)
    generalize layNew t es ((PySem.strKind P w).hash k) (.str k tk) = Z at pm hf1 hr1 hl1 ⊢
    obtain ⟨es1, t1, wasDummy, gave⟩ := Z
    dsimp only at pm hf1 hr1 hl1 ⊢
    rw [Array.toList_push] at pm
    have pk : (es1.toList.map keyS).Perm (l ++ [k]) := by
      have q := pm.map keyS
      rw [List.map_append] at q
      exact q.trans (hm.append_right _)
    have g1 : ∀ e ∈ es1.toList, GoodS w e := fun e he => by
      rcases List.mem_append.mp (pm.mem_iff.mp he) with z | z
      · exact g e z
      · rw [List.mem_singleton.mp z]; exact ⟨k, tk, rfl, rfl⟩
    have ea : addS l k = l ++ [k] := by unfold addS; rw [if_neg hnk]
    have nd1 : (l ++ [k]).Nodup := by
      rw [List.nodup_append]
      exact ⟨nd, List.pairwise_singleton _ _, fun x hx y hy e => hnk (by rw [← List.mem_singleton.mp hy, ← e]; exact hx)⟩
    have hsz : es1.size = l.length + 1 := by rw [← Array.length_toList, pm.length_eq, List.length_append, Array.length_toList, hn]; rfl
    have hb1 : es1.size < scanBound := by rw [hsz]; exact room
    have hled : w.params.followText "set-order" = true ∨ t1.led = true := hl.imp id fun z => by rw [hl1]; exact z
    have fin : ∀ h', Heap.SameBut a s.heap h' → SetS w h' a (l ++ [k]) → Q true { s with heap := h' } := fun h' sb r => hQ _ h' sb (by rw [ea]; exact r)
    refine wpAny_bind (hgw _ ?_)
    split
    · refine wpAny_bind ?_
      rw [hashByValue_scannable 8 hsc]
      refine wpAny_pure ?_
      refine setS_tail ?_ ho hex hd g1 pk nd1 hb1 ?_ ?_ ?_ ?_
      · intro b s₁ Q' q; cases b <;> first | exact wpAny_pure q | exact wpAny_rule q
      · first | (split <;> first | exact hf1 | exact SetTable.fits_plain_off hf1) | exact hf1
      · first | (split <;> exact hr1) | exact hr1
      · first | (split <;> exact hled) | exact hled
      · intro h' sb r; dsimp only; exact wpAny_pure (fin h' sb r)
    · refine wpAny_bind (wpAny_pure ?_)
      simp only [↓reduceIte]
      refine setS_tail ?_ ho hex hd g1 pk nd1 hb1 hf1 hr1 hled ?_
      · intro b s₁ Q' q; cases b <;> first | exact wpAny_pure q | exact wpAny_rule q
      · intro h' sb r; dsimp only; exact wpAny_pure (fin h' sb r)
end
end Tt

/-! sorted(set(a list of texts)). -/
namespace Tt
open PySem PySem.Spec PyProof.Rows L2 PySem.W

def dedS (ks : List Str) : List Str := ks.foldl addS []
theorem addS_len (l : List Str) (k : Str) : (addS l k).length ≤ l.length + 1 := by
  unfold addS
  split
  · omega
  · simp
theorem mem_addS {l : List Str} {k x : Str} : x ∈ addS l k ↔ x ∈ l ∨ x = k := by
  unfold addS
  split
  · rename_i h
    constructor
    · exact .inl
    · rintro (m | rfl)
      · exact m
      · exact h
  · simp
theorem nodup_addS {l : List Str} {k : Str} (h : l.Nodup) : (addS l k).Nodup := by
  unfold addS
  split
  · exact h
  · rename_i n
    rw [List.nodup_append]
    exact ⟨h, List.pairwise_singleton _ _, fun x hx y hy e => n (by rw [← List.mem_singleton.mp hy, ← e]; exact hx)⟩
theorem dedF_len : ∀ (ks acc : List Str), (ks.foldl addS acc).length ≤ acc.length + ks.length
  | [], acc => by simp
  | k :: ks, acc => by
    rw [List.foldl_cons, List.length_cons]
    have := dedF_len ks (addS acc k)
    have := addS_len acc k
    omega
theorem dedS_len (ks : List Str) : (dedS ks).length ≤ ks.length := by have := dedF_len ks []; simpa [dedS] using this
theorem mem_dedF {x : Str} : ∀ (ks acc : List Str), x ∈ ks.foldl addS acc ↔ x ∈ acc ∨ x ∈ ks
  | [], acc => by simp
  | k :: ks, acc => by
    rw [List.foldl_cons, mem_dedF ks, mem_addS, List.mem_cons, or_assoc]
theorem mem_dedS {x : Str} {ks : List Str} : x ∈ dedS ks ↔ x ∈ ks := by unfold dedS; rw [mem_dedF]; simp
theorem nodup_dedF : ∀ (ks acc : List Str), acc.Nodup → (ks.foldl addS acc).Nodup
  | [], _, h => h
  | k :: ks, acc, h => nodup_dedF ks _ (nodup_addS h)
theorem nodup_dedS (ks : List Str) : (dedS ks).Nodup := nodup_dedF ks [] List.nodup_nil
theorem dedS_snoc {ks : List Str} {i : Nat} {k : Str} (h : ks[i]? = some k) : dedS (ks.take (i + 1)) = addS (dedS (ks.take i)) k := by
  unfold dedS
  rw [List.take_add_one, h, List.foldl_append]
  rfl
section
variable {P : Program} {w : World} {A : Around} {E : Value → Shared → Prop} {s : Shared}
theorem setS_fresh {h : Heap} {a : Addr} (ho : h.get? a = some { cls := .type "set", dict := none, data := .set #[] 0 (.fresh 0 0 (!w.params.followText "set-order")) }) : SetS w h a [] := by
  refine ⟨_, #[], 0, _, ho, ⟨rfl, rfl, rfl⟩, rfl, fun e m => absurd m (by simp), List.Perm.nil, List.nodup_nil, (by decide : 0 < scanBound), rfl, List.Pairwise.nil, ?_⟩
  show _ ∨ (!w.params.followText "set-order") = true
  cases w.params.followText "set-order"
  · exact .inr rfl
  · exact .inl rfl
theorem setS_update {I : Addr} {fp wr : List Addr} {G : Array GenState → Array GenState → Prop} {n : Nat} {Pv : Nat → Value → Prop} {St : Nat → Shared → Prop} {R : Result → Shared → Prop}
    (W : WalksS P w A.in1 I fp wr G n Pv St) (S : Addr) (hSf : S ∉ fp) (ks : List Str) (hn : n = ks.length) (hfew : ks.length < scanBound) (hval : ∀ i v, Pv i v → ∃ k tk, ks[i]? = some k ∧ v = .str k tk)
    (h0 : Heap) (hS0 : h0.get? S = none) (hw0 : ∀ b ∈ wr, h0.get? b = none) :
    ∀ (k i : Nat) (s : Shared), n - i = k → i ≤ n → St i s → (∀ b o, h0.get? b = some o → s.heap.get? b = some o) → SetS w s.heap S (dedS (ks.take i)) →
      (∀ s', Moved (S :: wr) G s s' → SetS w s'.heap S (dedS ks) → (∀ b o, h0.get? b = some o → s'.heap.get? b = some o) → R (.ok (.ret .none)) s') →
      codeAny (model P w) A (.builtin "set.update.loop" ⟨[.ref S, .ref I], []⟩) R s := by
  have hSw : S ∉ wr := fun h => hSf (W.sub _ h)
  have hsub : ∀ b ∈ wr, b ∈ S :: wr := fun b hb => List.mem_cons_of_mem _ hb
  have keepM : ∀ {s s' : Shared}, Moved wr G s s' → (∀ b o, h0.get? b = some o → s.heap.get? b = some o) → ∀ b o, h0.get? b = some o → s'.heap.get? b = some o := fun hm hkp b o e =>
    hm.heap b o (fun hb => by rw [hw0 b hb] at e; cases e) (hkp b o e)
  intro k
  induction k with
  | zero =>
    intro i s hk' hi hst hkp hS hR
    have hin : i = n := by omega
    subst hin
    refine codeAny_builtin F.entry_set_update_loop ?_
    rw [Around.under_plainId F.plain_set_update_loop _]
    show wpAny _ A.in1 (pyNext (.ref I) >>= _) _ _ s
    refine wpAny_bind (W.done s _ _ hst fun s' hm => ?_)
    show wpAny _ A.in1 (ret Value.none) _ _ s'
    have hkp' := keepM hm hkp
    rw [hn, List.take_length] at hS
    exact wpAny_pure (hR s' (hm.mono hsub) (hS.at fun o e => hm.heap S o hSw e) hkp')
  | succ k ih =>
    intro i s hk' hi hst hkp hS hR
    have hlt : i < n := by omega
    refine codeAny_builtin F.entry_set_update_loop ?_
    rw [Around.under_plainId F.plain_set_update_loop _]
    show wpAny _ A.in1 (pyNext (.ref I) >>= _) _ _ s
    refine wpAny_bind (W.item i s _ _ hlt hst fun v s' hP hst' hm => ?_)
    obtain ⟨p, tk, hp, rfl⟩ := hval i v hP
    have hkp' := keepM hm hkp
    have hS' : SetS w s'.heap S (dedS (ks.take i)) := hS.at fun o e => hm.heap S o hSw e
    have hl : (dedS (ks.take i)).length ≤ i := Nat.le_trans (dedS_len _) (by rw [List.length_take]; omega)
    show wpAny _ A.in1 (holding [Value.str p tk] (setAdd S (.str p tk)) >>= _) _ _ s'
    refine wpAny_bind (wpAny_holding ?_)
    unfold setAdd
    refine wpAny_holding ?_
    refine wpAny_bind (wpAny_pyHash_str ?_)
    refine setS_add (P := P) (s := { s' with toks := s'.toks + 1 }) hS' (by omega) fun b h' hsb hS2 => ?_
    have hkp2 : ∀ b o, h0.get? b = some o → h'.get? b = some o := fun b o e => (hsb.2 b (fun z => by rw [z, hS0] at e; cases e)).trans (hkp' b o e)
    rw [← dedS_snoc hp] at hS2
    refine wpAny_pure ⟨plainId_quiet F.plain_set_update_loop _, ih (i + 1) _ (by omega) hlt (W.frame _ s' _ _ hst' (Nat.le_add_right _ _) fun b hb o e => ?_) hkp2 hS2 fun s'' hm'' hS'' hkp'' => ?_⟩
    · rw [hsb.2 b (fun h : b = S => hSf (by rw [← h]; exact hb))]; exact e
    · refine hR s'' (Moved.trans W.gtrans ((hm.mono hsub).then_heap (Nat.le_add_right _ _) fun b o hb e => ?_) hm'') hS'' hkp''
      rw [hsb.2 b (fun h : b = S => hb (by rw [h]; exact List.mem_cons_self))]; exact e
set_option maxRecDepth 100000 in
set_option maxHeartbeats 3200000 in
theorem call_setS {l : Addr} {items : Array Value} (ks : List Str) {Q : Value → Shared → Prop} (hh : A.handled = none) (hl : s.heap.IsList l items) (hit : StrsAre items.toList ks)
    (hfew : ks.length < scanBound)
    (h : ∀ (h' : Heap) (tk : Nat), SetS w h' s.heap.objs.size (dedS ks) → (∀ b o, s.heap.get? b = some o → h'.get? b = some o) → Q (.ref s.heap.objs.size) { s with heap := h', toks := tk }) :
    wpAny (model P w) A (call (.type "set") [.ref l]) Q E s := by
  have hisz : items.size = ks.length := by
    rw [← Array.length_toList]
    exact hit.length
  obtain ⟨c, tl, hmro⟩ := F.called_set.mro
  have hmade := F.called_set.made
  have hsub := F.called_set.sub
  refine wpAny_call (codeAny_of_tree ?_)
  show wpAny _ _ (callAny (.type "set") _) _ _ _
  refine wpAny_pure ⟨Code.quiet_builtin _ (by decide +kernel), codeAny_builtin F.entry_type_call ?_⟩
  rw [Around.under_plain (weight_type_call_type "set" [.ref l] []) rfl]
  have h1 := F.called_set.notType
  have h2 := F.called_set.canCreate
  have hct := F.typeCall_set_1 (.ref l)
  repeat (any_goals (first | assumption | wp_step))

  refine codeAny_mono (code_set_led1 (.ref l) (E := E) (Q₁ := fun obj s₁ => obj = .ref s.heap.objs.size ∧ s₁ = { s with heap := s.heap.push { cls := .type "set", dict := none, data := .set #[] 0 (.fresh 0 0 (!w.params.followText "set-order")) } }) ⟨rfl, rfl⟩) fun r s₁ hr => ?_
  cases r with
  | error e => exact hr
  | ok fl =>
    cases fl with
    | ret obj =>
      obtain ⟨rfl, rfl⟩ := hr
      have hS : (s.heap.push { cls := .type "set", dict := none, data := .set #[] 0 (.fresh 0 0 (!w.params.followText "set-order")) }).get? s.heap.objs.size = some { cls := .type "set", dict := none, data := .set #[] 0 (.fresh 0 0 (!w.params.followText "set-order")) } := Heap.get?_push_size _ rfl
      have hT : Shared.TypeIs { s with heap := s.heap.push { cls := .type "set", dict := none, data := .set #[] 0 (.fresh 0 0 (!w.params.followText "set-order")) } } (.ref s.heap.objs.size) "set" := ⟨_, hS, rfl⟩
      have hli := F.called_set.init.lookup
      have hbi := F.called_set.init.bind (.ref s.heap.objs.size)
      repeat (any_goals (first | assumption | wp_step))

      refine codeAny_mono (codeAny_call_builtin (R := wants (fun r s₂ => r = .none ∧ ∃ h' tk, s₂ = { s with heap := h', toks := tk } ∧ SetS w h' s.heap.objs.size (dedS ks) ∧
          (∀ b o, s.heap.get? b = some o → h'.get? b = some o)) E) F.called_set.init.plain F.entry_set_init (check_set_init_1 hT ?_)) fun r₂ s₂ hr₂ => ?_
      · obtain ⟨ol, hol, hcl, nl, hdl⟩ := hl
        obtain ⟨ocls, odict, odata, oslots⟩ := ol
        simp only at hcl hdl
        subst hcl; subst hdl
        have hol' : (s.heap.push { cls := .type "set", dict := none, data := .set #[] 0 (.fresh 0 0 (!w.params.followText "set-order")) }).get? l = some { cls := .type "list", dict := odict, data := .seq items nl, slots := oslots } := Heap.get?_push_of_some _ hol
        have hsls := F.sub_list_set
        have hslf := F.sub_list_frozenset
        have hne : (Value.type "list" == Value.type "dict") = false := by decide
        have hl1 : (s.heap.push { cls := .type "set", dict := none, data := .set #[] 0 (.fresh 0 0 (!w.params.followText "set-order")) }).IsList l items := ⟨_, hol', rfl, nl, rfl⟩
        unfold Builtin.«set.__init__» noKeywords Builtin.Frozenset.updateFrom
        generalize hPI : pyIter = PI
        wp_walk
        subst hPI

        refine wpAny_pyIter_list hl1 ?_
        refine wpAny_bind (wpAny_runValue ?_)
        have hlS : l < s.heap.objs.size := Heap.lt_size hol
        have hh3 : A.in1.in1.in1.handled = none := by simp [hh]
        have hz1 : (s.heap.push { cls := .type "set", dict := none, data := .set #[] 0 (.fresh 0 0 (!w.params.followText "set-order")) }).objs.size = s.heap.objs.size + 1 := Heap.size_push ..
        have hneI : l ≠ (s.heap.push { cls := .type "set", dict := none, data := .set #[] 0 (.fresh 0 0 (!w.params.followText "set-order")) }).objs.size := by
          rw [Heap.size_push]; exact Nat.ne_of_lt (Nat.lt_succ_of_lt hlS)
        have hSf : s.heap.objs.size ∉ [(s.heap.push { cls := .type "set", dict := none, data := .set #[] 0 (.fresh 0 0 (!w.params.followText "set-order")) }).objs.size, l] := by
          rw [Heap.size_push]; simp only [List.mem_cons, List.mem_singleton, List.not_mem_nil, or_false, not_or]
          exact ⟨Nat.ne_of_lt (Nat.lt_succ_self _), Nat.ne_of_gt hlS⟩
        have hval : ∀ (i : Nat) (v : Value), items[i]? = some v → ∃ k tk, ks[i]? = some k ∧ v = .str k tk := fun i v hv => by
          have q : items.toList[i]? = some v := by rw [Array.getElem?_toList]; exact hv
          obtain ⟨y, t, e1, e2⟩ := hit.item i v q
          exact ⟨y, t, e2, e1⟩
        have none_of : ∀ b, s.heap.objs.size ≤ b → s.heap.get? b = none := fun b hb => by
          cases q : s.heap.get? b with
          | none => rfl
          | some o => exact absurd (Nat.lt_of_lt_of_le (Heap.lt_size q) hb) (Nat.lt_irrefl _)
        refine setS_update ((Walks.list hh3 _ l hneI items).toS) s.heap.objs.size
          hSf ks hisz hfew hval s.heap (none_of _ (Nat.le_refl _)) (fun b hb => none_of b (by
            rw [List.mem_singleton.mp hb, Heap.size_push]
            exact Nat.le_succ _)) (items.size - 0) 0 _ (by omega) (Nat.zero_le _)
          ⟨⟨_, Heap.get?_push_size _ rfl, rfl, rfl⟩, (hl1.push _)⟩ (fun b o e => Heap.get?_push_of_some _ (Heap.get?_push_of_some _ e)) ?hS0 ?hR
        case hS0 =>
          have hget : ((s.heap.push { cls := .type "set", dict := none, data := .set #[] 0 (.fresh 0 0 (!w.params.followText "set-order")) }).push { cls := .type "list_iterator", data := .fields #[.ref l, .int 0 0] }).get? s.heap.objs.size
              = some { cls := .type "set", dict := none, data := .set #[] 0 (.fresh 0 0 (!w.params.followText "set-order")) } := Heap.get?_push_of_some _ hS
          exact setS_fresh hget
        case hR =>
          intro s' hm hS' hkp
          obtain ⟨h', g2, d', tk', os'⟩ := s'
          have eg : g2 = s.gens := hm.gens
          have ed : d' = s.drawn := hm.drawn
          have eo : os' = s.os := hm.os
          subst eg; subst ed; subst eo
          show wpAny _ _ _ _ _ _
          refine wpAny_pure ?_
          show wpAny _ _ (ret Value.none) _ _ _
          exact wpAny_pure ⟨rfl, h', tk', rfl, hS', hkp⟩

      · cases r₂ with
        | error e => exact hr₂
        | ok fl₂ =>
          cases fl₂ with
          | ret r =>
            obtain ⟨rfl, h', tk, rfl, hS', hk'⟩ := hr₂
            repeat (any_goals (first | assumption | wp_step))
            exact h _ _ hS' hk'
          | _ => exact hr₂.elim
    | _ => exact hr.elim
end
/-! ### the order of alike data -/
section
variable {β : Type} {enc : β → D}
theorem toks_inj {x y : D} (h : alike x y = true) (e : keyToks x = keyToks y) : PyData.eqv x y = true := by
  cases q : PyData.eqv x y with
  | true => rfl
  | false =>
    have k := (toks_eqv x y h).2 q [] [Sum.inl 0]
    rw [e, lex_pre, lex_irrefl] at k
    exact absurd (show true = false from k) (by decide)
theorem perm_sort (al : ∀ a b, alike (enc a) (enc b) = true) (inj : ∀ a b, PyData.eqv (enc a) (enc b) = true → a = b) {l m : List β} (p : l.Perm m) : l.mergeSort (dataLe false enc) = m.mergeSort (dataLe false enc) := by
  have T : TotalLe (dataLe false enc) := sortLe_total (listOrd itemOrd) false fun b => keyToks (enc b)
  refine List.Perm.eq_of_pairwise (le := fun a b => dataLe false enc a b = true) (fun a b _ _ h1 h2 => ?_) (List.pairwise_mergeSort (fun a b c => T.trans a b c) (fun a b => by rw [Bool.or_eq_true]; exact T.total a b) _) (List.pairwise_mergeSort (fun a b c => T.trans a b c) (fun a b => by rw [Bool.or_eq_true]; exact T.total a b) _) ((List.mergeSort_perm _ _).trans (p.trans (List.mergeSort_perm _ _).symm))
  refine inj a b (toks_inj (al a b) ?_)
  have k1 : lexLt itemOrd (keyToks (enc b)) (keyToks (enc a)) = false := by
    have : (!lexLt itemOrd (keyToks (enc b)) (keyToks (enc a))) = true := h1
    simpa using this
  have k2 : lexLt itemOrd (keyToks (enc a)) (keyToks (enc b)) = false := by
    have : (!lexLt itemOrd (keyToks (enc a)) (keyToks (enc b))) = true := h2
    simpa using this
  exact lex_total _ _ k2 k1
end
/-! ### sorted of what is collected in some order -/
section
variable {prog : Program} {w : World} {A : Around} {E : Value → Shared → Prop} {s : Shared}
theorem sorted_collS {β : Type} {enc : β → D} {R : Value → β → Prop} {arg : Value} {P : List Value → List β → Prop} {Q : Value → Shared → Prop}
    (col : ∀ {E' : Value → Shared → Prop} {Q' : List Value → Shared → Prop}, (∀ s1 vs bs, (∀ b o, s.heap.get? b = some o → s1.heap.get? b = some o) → s.heap.objs.size ≤ s1.heap.objs.size → s1.gens = s.gens → s1.os = s.os → P vs bs → Q' vs s1) → wpAny (model prog w) A.in1 (collect arg) Q' E' s)
    (e : ∀ vs bs, P vs bs → EachIs R vs bs ∧ EachIs (fun v b => ∃ as, Reads s.heap v (enc b) as) vs bs ∧ AllAlike (bs.map enc) ∧ Sortable (bs.map enc) ∧ bs.length ≤ sizeLine ∧ ∀ b, b ∈ bs → A.units + 2 + (enc b).depth < cLine)
    (h : ∀ (s1 : Shared) (h' : Heap) vs bs out n, P vs bs → (∀ b o, s.heap.get? b = some o → h'.get? b = some o) → s.heap.objs.size ≤ s1.heap.objs.size → s1.gens = s.gens → s1.os = s.os → out.length = bs.length → EachIs R out (bs.mergeSort (dataLe false enc)) → h'.get? s1.heap.objs.size = some (seqObj "list" (List.toArray out) n) → Q (.ref s1.heap.objs.size) { s1 with heap := h' }) :
    wpAny (model prog w) A (call (.builtin "sorted") [arg]) Q E s := by
  refine Calls.call_function_entry kind_sorted plain_sorted entry_sorted (args_sorted1 _) ?_
  unfold Builtin.«sorted»
  refine wpAny_bind (m := checkCount "sorted" 1 1 _) (wpAny_pure ?_)
  refine wpAny_bind (col fun s1 vs bs kp hz hg ho pv => ?_)
  obtain ⟨ev, er, hal, hk, hL, hu⟩ := e vs bs pv
  have hv : vs.length ≤ sizeLine := by rw [ev.length]; exact hL
  refine wpAny_bind (wpAny_newList ?_ hv)
  have hoL : (s1.heap.push (seqObj "list" vs.toArray 0)).get? s1.heap.objs.size = some (seqObj "list" vs.toArray 0) := Heap.get?_push_size _ rfl
  show wpAny _ _ _ _ _ { s1 with heap := s1.heap.push (seqObj "list" vs.toArray 0) }
  have kp2 : ∀ b o, s.heap.get? b = some o → (s1.heap.push (seqObj "list" vs.toArray 0)).get? b = some o := fun b o q => Heap.get?_push_of_some _ (kp b o q)
  have er' : EachIs (fun v b => ∃ as, Reads (sortingHeap (s1.heap.push (seqObj "list" vs.toArray 0)) s1.heap.objs.size vs) v (enc b) as) vs bs :=
    er.mono fun _ _ ⟨as, r⟩ => ⟨as, PyProof.Rows.Reads.keeps (fun b o q => sortingHeap_old (Nat.ne_of_lt (Heap.lt_size (kp b o q))) (kp2 b o q)) r⟩
  refine wpAny_bind (wpAny_holding (wpAny_call_entry slot_list_sort ⟨_, hoL, rfl⟩ entry_list_sort
    (list_sort_vals (s := { s1 with heap := s1.heap.push (seqObj "list" vs.toArray 0) }) (κ := dataKind (sortingHeap (s1.heap.push (seqObj "list" vs.toArray 0)) s1.heap.objs.size vs) (bs.map enc)) hoL
      (SortsAt.data (s := { s1 with heap := sortingHeap (s1.heap.push (seqObj "list" vs.toArray 0)) s1.heap.objs.size vs }) (each_map (R := fun v d => ∃ as, Reads (sortingHeap (s1.heap.push (seqObj "list" vs.toArray 0)) s1.heap.objs.size vs) v d as) enc er') hal hk (bound_map hu)) hv ⟨_, rfl, ?_⟩) (args_list_sort _)))
  obtain ⟨n, he⟩ := PyProof.Rows.sortedHeap_at (vs := vs) (out := (sortVals (dataKind (sortingHeap (s1.heap.push (seqObj "list" vs.toArray 0)) s1.heap.objs.size vs) (bs.map enc)) false vs vs).toArray) hoL
  refine wpAny_pure ⟨_, rfl, h s1 _ vs bs _ n pv (fun b o q => ?_) hz hg ho (by rw [sortVals_length false rfl]; exact ev.length) (sortVals_data false ev er' hal) he⟩
  have hb : b < s1.heap.objs.size := Heap.lt_size (kp b o q)
  rw [PyProof.Rows.sortedHeap_old (Nat.ne_of_lt hb) (by rw [size_push']; exact Nat.lt_succ_of_lt hb)]
  exact Heap.get?_push_of_some _ (kp b o q)
end
def SetSO (w : World) (a : Addr) (l : List Str) : HO := .ext fun h => SetS w h a l
theorem setSO_new {P : Program} {w : World} {H : Hp} {h : Heap} {a : Addr} {l : List Str} (R : SetS w h a l) : ObjOk P w H h a (SetSO w a l) := by
  have ⟨o, es, ep, t, ho, r⟩ := R
  exact ⟨R, ⟨o, ho⟩, fun h1 h2 p k => SetS.at p k⟩
theorem goodS_strs {w : World} : ∀ {es : List (Int × Value)}, (∀ e ∈ es, GoodS w e) → StrsAre (es.map (·.2)) (es.map keyS)
  | [], _ => .nil
  | e :: es, g => by
    obtain ⟨k, tk, h1, _⟩ := g e List.mem_cons_self
    rw [List.map_cons, List.map_cons, show keyS e = k by unfold keyS; rw [h1], h1]
    exact .cons k tk (goodS_strs fun x m => g x (List.mem_cons_of_mem _ m))
theorem strs_each : ∀ {vs : List Value} {ks : List Str}, StrsAre vs ks → EachIs (fun v k => ∃ t, v = Value.str k t) vs ks
  | _, _, .nil => .nil
  | _, _, .cons k t r => .cons ⟨t, rfl⟩ (strs_each r)
theorem each_strs : ∀ {vs : List Value} {ks : List Str}, EachIs (fun v k => ∃ t, v = Value.str k t) vs ks → StrsAre vs ks
  | _, _, .nil => .nil
  | _, _, .cons ⟨t, e⟩ r => by subst e; exact .cons _ t (each_strs r)
theorem strs_perm {vs ws : List Value} (p : vs.Perm ws) : ∀ {ks : List Str}, StrsAre ws ks → ∃ js : List Str, StrsAre vs js ∧ js.Perm ks := by
  induction p with
  | nil => intro ks h; cases h; exact ⟨[], .nil, .nil⟩
  | cons x p ih =>
    intro ks h
    cases h with
    | cons k t r =>
      obtain ⟨js, a, b⟩ := ih r
      exact ⟨k :: js, .cons k t a, b.cons k⟩
  | swap x y l =>
    intro ks h
    cases h with
    | cons k t r =>
      cases r with
      | cons k2 t2 r => exact ⟨_, .cons _ _ (.cons _ _ r), .swap _ _ _⟩
  | trans p q ih1 ih2 =>
    intro ks h
    obtain ⟨js, a, b⟩ := ih2 h
    obtain ⟨js2, a2, b2⟩ := ih1 a
    exact ⟨js2, a2, b2.trans b⟩
theorem alike_str (a b : Str) : alike (PyData.str a) (PyData.str b) = true := by simp [alike]
theorem perm_strs {l m : List Str} (p : l.Perm m) : l.mergeSort (dataLe false PyData.str) = m.mergeSort (dataLe false PyData.str) := perm_sort alike_str (fun a b h => by simpa [PyData.eqv] using h) p
section
variable {X : Cx}
theorem cr_setS (hc : X.calm = true) : CallR X (.type "set") (fun xs H Q => ∃ (l : Addr) (ks : List Str), xs = [V.ref l] ∧ SqL X.K H l (ks.map V.str) ∧ ks.length < scanBound ∧
    ∀ a, H a = none → Q (.ref a) (upd H a (SetSO X.w a (dedS ks)))) := by
  intro pins s σ H xs us Q I r h
  obtain ⟨l, ks, rfl, hl, hf, q⟩ := h
  rw [Vals.ref1 r]
  obtain ⟨its, rv, pl, hz⟩ := I.list hl
  have hn : H s.heap.objs.size = none := I.hok.fresh (Nat.le_refl _)
  refine call_setS (P := X.prog) (w := X.w) ks (I.ok.hd hc) pl.isList (by simpa using Vals.strs rv) hf fun h' tk R k => ?_
  exact ⟨.ref s.heap.objs.size, upd H s.heap.objs.size (SetSO X.w s.heap.objs.size (dedS ks)), I.laid (t' := tk) k (Nat.le_refl _) (setSO_new R), rfl, q _ hn⟩
theorem cr_sortedS (hc : X.calm = true) (hu : X.A.units + 64 < cLine) : CallR X (.builtin "sorted") (fun vs H Q => ∃ (a : Addr) (l : List Str), vs = [V.ref a] ∧ H a = some (SetSO X.w a l) ∧
    ∀ p, H p = none → Q (.ref p) (upd H p (.lst ((l.mergeSort (dataLe false PyData.str)).map V.str)))) := by
  intro pins s σ H vs us Q I r h
  obtain ⟨a, l, rfl, ha, q⟩ := h
  have R0 : SetS X.w s.heap a l := (I.hok a _ ha).1
  obtain ⟨o, es, ep, t, ho, hex, hd, g, hm, nd, hb, hf, hr, hl⟩ := R0
  rw [Vals.ref1 r]
  have hsz : es.size ≤ sizeLine := by unfold scanBound at hb; rw [sizeLine_eq]; omega
  refine sorted_collS (enc := PyData.str) (R := fun v k => ∃ t, v = Value.str k t) (P := fun vs js => StrsAre vs js ∧ js.Perm l)
    (fun {E' Q'} k => collect_set (A := X.A.in1) (I.ok.hd hc) ⟨o, ho, hex.1, hd⟩ hf hb hr hl fun s1 vs k1 hz g1 o1 pm => ?_) (fun vs js ⟨h1, h2⟩ => ?_) fun s1 h' vs js out n ⟨h1, h2⟩ kp hz hg hos hl2 eo hg2 => ?_
  · obtain ⟨js, a1, a2⟩ := strs_perm pm (goodS_strs g)
    exact k s1 vs js k1 hz g1 o1 ⟨a1, a2.trans hm⟩
  · have hlen : js.length ≤ sizeLine := by
      rw [h2.length_eq, ← hm.length_eq, List.length_map, Array.length_toList]
      exact hsz
    exact ⟨strs_each h1, (strs_each h1).mono fun v k ⟨t, e⟩ => ⟨[], by rw [e]; exact .str _ _⟩, AllAlike.of alike_str, Sortable.others fun b => ⟨by simp, fun xs => by simp⟩, hlen, fun b _ => by simp [PyData.depth]; omega⟩
  · have hlen : js.length ≤ sizeLine := by
      rw [h2.length_eq, ← hm.length_eq, List.length_map, Array.length_toList]
      exact hsz
    have hn : H s1.heap.objs.size = none := I.hok.fresh hz
    rw [perm_strs h2] at eo
    have hv : Vals ((l.mergeSort (dataLe false PyData.str)).map V.str) out := vals_of_strs (each_strs eo)
    have J : Inv X pins σ (upd H s1.heap.objs.size (.lst ((l.mergeSort (dataLe false PyData.str)).map V.str))) { s with heap := h', gens := s1.gens, drawn := s1.drawn, toks := s1.toks } :=
      I.call (ch := []) (Un.laid kp hz hn) (I.hok.laid kp hz ⟨by rw [hv.length, hl2]; exact hlen, out, n, hv, hg2⟩) (by rw [hg]; exact I.bare) (fun _ z => nomatch z)
    have e : ({ s1 with heap := h' } : Shared) = { s with heap := h', gens := s1.gens, drawn := s1.drawn, toks := s1.toks } := by
      cases s1
      cases s
      cases hos
      rfl
    rw [e]
    exact ⟨.ref s1.heap.objs.size, _, J, rfl, q _ hn⟩
end
section
variable {X : Cx} {m : Bool} {ρ ρ1 : List Sl} {W : Wx} {pos p p2 q2 : Pos} {a : Expr} {Q : Bool → D → List Sl → Prop}
/-- sorted(set(x)), x a list of texts -/
theorem em_sortedSet (hc : X.calm = true) (hu : X.A.units + 64 < cLine) (hms : X.mg "sorted" = none) (hset : X.mg "set" = none)
    (h : EM m X a ρ W fun _ d ρ1 => ∃ ks : List Str, d = .list (ks.map .str) ∧ ks.length < scanBound ∧ Q true (.list (((dedS ks).mergeSort (dataLe false PyData.str)).map .str)) ρ1)
    (hg : Gl X "sorted" := by rfl) (hg2 : Gl X "set" := by rfl)
    (h1 : starEach [Expr.Call (.Name "set" p2) [a] [] q2] X.env = (false, eval (Expr.Call (.Name "set" p2) [a] [] q2) X.env) :: starEach [] X.env := by rfl) (h2 : (backTo pos (starEach [] X.env)).any (·.1) = false := by rfl)
    (h3 : starEach [a] X.env = (false, eval a X.env) :: starEach [] X.env := by rfl) (h4 : (backTo q2 (starEach [] X.env)).any (·.1) = false := by rfl) :
    EM m X (.Call (.Name "sorted" p) [.Call (.Name "set" p2) [a] [] q2] [] pos) ρ W Q := fun σ I H ok xk R f => by
  refine ⟨_, pe_callB (cr_sortedS hc hu) hg hms PyProof.Rows.boot_sorted (pa_cons (pe_callTy (cr_setS hc) hg2 hset PyProof.Rows.boot_set (pa_cons pe_w pa_nil h3) (by decide) (by decide) h3 h4) pa_nil h1) (by decide) (by decide) h1 h2, ?_⟩
  refine h σ I H ok xk _ fun v o d ρ1 I1 H1 g1 r1 q1 => ?_
  obtain ⟨ks, rfl, hf, q⟩ := q1
  obtain ⟨J, gJ, rJ⟩ := r1.data g1 ok
  obtain ⟨l, xs, rfl, hl, t⟩ := rJ.lst
  have hx := DqAll.strs t
  subst hx
  have sJ := (gJ.env ok).sub
  have k := Res.fin (Q1 := fun o z => Q o z ρ1) ok gJ f fun _ _ h => h
  refine ⟨l, ks, rfl, SqL.of (sJ.lst hl), hf, fun a n1 => ⟨a, dedS ks, rfl, upd_same, fun b n2 => ?_⟩⟩
  have nb : H1 b = none := by
    by_cases e : b = a
    · subst e; exact n1
    · rw [upd_ne e] at n2; exact n2
  have gr1 := Grow.dark (o := SetSO X.w a (dedS ks)) sJ n1
  have gr2 := Grow.dark (o := .lst (((dedS ks).mergeSort (dataLe false PyData.str)).map V.str)) gr1.sub n2
  exact k _ true _ J _ (gr1.trans gr2) ⟨b, _, _, rfl, rfl, nb, sJ.nn nb, upd_same, DqAll.mkStrs _⟩ q
end
end Tt

/-! tuple(range(n)) -/
namespace Tt
open PySem PySem.Spec PyProof.Rows L2 PySem.W
section
variable {X : Cx} {m : Bool} {ρ ρ1 : List Sl} {W : Wx} {pos p : Pos} {a : Expr}
theorem em_tupRg {Q : Bool → D → List Sl → Prop} (hc : X.calm = true) (hm : X.mg "tuple" = none) (hr : X.mg "range" = none) {p2 pos2 : Pos} (h : EM m X a ρ W fun _ d ρ1 => ∃ n : Nat, d = .int n ∧ n ≤ 16777216 ∧ Q false (.tuple (rngD 0 n)) ρ1) (hg : Gl X "tuple" := by rfl) (hg2 : Gl X "range" := by rfl) (na : starEach [a] X.env = (false, eval a X.env) :: starEach [] X.env := by rfl)
    (na2 : starEach [Expr.Call (.Name "range" p2) [a] [] pos2] X.env = (false, eval (Expr.Call (.Name "range" p2) [a] [] pos2) X.env) :: starEach [] X.env := by rfl) : EM m X (.Call (.Name "tuple" p) [.Call (.Name "range" p2) [a] [] pos2] [] pos) ρ W Q := fun σ I H ok xk R f =>
  ⟨_, pe_tupRg hc hg hm (prg_1 hg2 hr pe_w na) na2, h.run ok xk fun v _ d ρ1 I1 H1 g1 r1 ⟨n, e, hn, q⟩ => by
    subst e
    rw [r1.int]
    refine ⟨(n : Int), rfl, .of_le (Int.le_refl 0) (by omega) (by omega) (by omega), fun q' nq => ?_⟩
    have t : DqAll I1 (rgV 0 (n : Int)) (rngD 0 n) := by
      unfold rgV rngD
      have : ((n : Int) - 0).toNat = n := by omega
      rw [this]
      have : ∀ l : List Nat, DqAll I1 (l.map fun i => V.int (0 + (i : Nat))) (l.map fun (i : Nat) => PyData.int (0 + (i : Int))) := by
        intro l
        induction l with
        | nil => exact .nil
        | cons x l ih => exact .cons (.int _) ih
      exact this _
    have k := Res.fin (Q1 := fun o z => Q o z ρ1) ok g1 f fun _ _ h => h
    exact Res.tup k (g1.env ok).sub t q nq⟩
end
section
variable {X : Cx} {ρ : List Sl} {W : Wx} {E : DE} {st : Stmt} {ss : List Stmt}
theorem sd_cut (J : List Sl → Prop) (h : S1 X st ρ W { E with nx := J }) (k : ∀ ρ, J ρ → SD X ss ρ W E) : SD X (st :: ss) ρ W E := fun σ I0 H ok xk T kf =>
  ⟨_, pss_cons ps_w pss_w, h σ I0 H ok xk _ ⟨fun σ' ρ' I' H' ok' s q => k _ q σ' I' H' ok' (xk.step s) T (kf.step s), kf.rt, kf.bk, kf.ct⟩⟩
end
end Tt

/-! x[::-1] of a text; text.index(text). -/
namespace Tt
open PySem PySem.Spec PyProof.Rows L2 PySem.W
def revS (x : Str) : Str := ⟨x.cps.toList.reverse.toArray⟩
theorem revS_len (x : Str) : (revS x).length = x.length := by simp [revS, Str.length]
theorem picked_revS (x : Str) : (⟨((Builtin.Str.strSliceIndices none none (-1) x.length).filterMap (x.cps[·]?)).toArray⟩ : Str) = revS x := by
  have h := step_rev_list x 0
  unfold revS
  congr 1
  congr 1
  have e : (Txt.sliceBy x none none (-1, 0)).cps.toList = (Builtin.Str.strSliceIndices none none (-1) x.length).filterMap (x.cps[·]?) := by
    unfold Txt.sliceBy slicePicked
    have h1 : ¬ (((((some ((-1 : Int), (0 : Tok))).map (·.1)).getD 1 == 1) && ((Builtin.Str.strSliceIndices ((none : Option (Int × Tok)).map (·.1)) ((none : Option (Int × Tok)).map (·.1)) (((some ((-1 : Int), (0 : Tok))).map (·.1)).getD 1) x.length).length == x.length)) = true) := by
      have : ((((some ((-1 : Int), (0 : Tok))).map (·.1)).getD 1 == 1)) = false := rfl
      rw [this]; simp
    rw [if_neg h1]
    rfl
  rw [← e, h]
  apply List.ext_getElem
  · simp [Str.length]
  · intro i h1 h2
    simp only [List.length_map, List.length_range] at h1
    rw [List.getElem_map, List.getElem_range, List.getElem_reverse]
    simp only [Array.getElem_toList, Array.length_toList]
    have h3 : x.cps.size - 1 - i < x.cps.size := by
      have : i < x.cps.size := h1
      omega
    show x.cps.getD (x.cps.size - 1 - i) 0 = _
    simp [Array.getD, h3]
section
variable {X : Cx} {m : Bool} {ρ : List Sl} {W : Wx} {Q : Bool → D → List Sl → Prop}
def tRevS (te : TE) : TE := fun σ H Q => te σ H fun x H1 => ∃ z, x = .str z ∧ z.length ≤ sizeLine ∧ Q (.str (revS z)) H1
theorem pe_revS {e : Expr} {te : TE} {k : Nat} {p1 p2 p3 pos : Pos} (he : PE X e te) : PE X (.Subscript e (.Slice none none (some (.UnaryOp .USub (.Constant (.int 1) k p1) p2)) p3) pos) (tRevS te) := by
  refine ⟨fun pins s σ H Q I h => ?_⟩
  refine Subscript_ (thn (he.run pins s σ H _ I h) fun v s1 ⟨x, H1, I1, r1, q1⟩ => ?_)
  obtain ⟨z, ex, hz, q⟩ := q1
  subst ex
  obtain ⟨t, rfl⟩ := r1
  have hst : PO X (some (.UnaryOp .USub (.Constant (.int 1) k p1) p2)) (tPart (tUn (rU fun i => .int (-i)) (tC (.int 1)))) := po_some (pe_un un_neg pe_int)
  refine wpAny_Slice (thn (po_none.run pins s1 σ H1 (fun o H2 => o = none ∧ H2 = H1) I1 ⟨rfl, rfl⟩) fun vl s2 ⟨l, H2, I2, pl, el, e2⟩ => ?_)
  subst el e2
  refine thn (po_none.run pins s2 σ H2 (fun o H3 => o = none ∧ H3 = H2) I2 ⟨rfl, rfl⟩) fun vu s3 ⟨u, H3, I3, pu, eu, e3⟩ => ?_
  subst eu e3
  refine thn (hst.run pins s3 σ H3 (fun o H4 => o = some (-1) ∧ H4 = H3) I3 ⟨1, rfl, -1, rfl, rfl, rfl⟩) fun vs s4 ⟨o, H4, I4, ps, eo, e4⟩ => ?_
  subst eo e4
  have I5 : Inv X pins σ H4 { s4 with heap := s4.heap.push { cls := .type "slice", data := .fields #[vl, vu, vs] } } := I4.kept (t' := s4.toks) fun b ob q => Heap.get?_push_of_some _ q
  cases pl
  cases pu
  cases ps with
  | int i tk =>
  show wpAny (model X.prog X.w) X.A (subscriptTail e (.Slice none none (some (.UnaryOp .USub (.Constant (.int 1) k p1) p2)) p3) (.str z t) (.ref s4.heap.objs.size)) (EP X pins σ Q) X.xe { s4 with heap := s4.heap.push { cls := .type "slice", data := .fields #[.none, .none, .int (-1) tk] } }
  refine tail_any (ops := [.str z t, .ref s4.heap.objs.size]) (typeIs_str _ _ _) (PySem.F.slot_str_getitem.lookup) ?_ (by with_unfolding_all rfl)
  refine wpAny_getItem_str_slice (l := none) (u := none) (st := some (-1, tk)) ⟨_, Heap.get?_push_size _ rfl, rfl, rfl⟩ rfl ?_
  show Made.post (if ((-1 : Int) == 1 && (Builtin.Str.strSliceIndices none none (-1) z.length).length == z.length) = true then Made.val (.str z t)
    else Made.str ⟨((Builtin.Str.strSliceIndices none none (-1) z.length).filterMap (z.cps[·]?)).toArray⟩) _ _
  rw [if_neg (by simp)]
  rw [picked_revS]
  exact ⟨by rw [revS_len]; exact hz, .str _, H4, I5.tok _, ⟨_, rfl⟩, q⟩
theorem em_rev {a : Expr} {k : Nat} {p1 p2 p3 pos : Pos} (h : EM m X a ρ W fun _ x ρ1 => ∃ z, x = .str z ∧ z.length ≤ sizeLine ∧ Q false (.str (revS z)) ρ1) : EM m X (.Subscript a (.Slice none none (some (.UnaryOp .USub (.Constant (.int 1) k p1) p2)) p3) pos) ρ W Q := fun σ I H ok xk R f =>
  ⟨_, pe_revS pe_w, h.run ok xk fun v _ x ρ1 I1 H1 g1 r1 q1 => by
    obtain ⟨z, rfl, hz, q⟩ := q1
    rw [r1.str]
    exact ⟨z, rfl, hz, f _ false _ _ I1 H1 g1 Rv.mkStr q⟩⟩
theorem mt_indexS : MtR X "str.index" (fun x xs H Q => ∃ a b i rest, x = .str a ∧ xs = [.str b] ∧ Builtin.Str.occurrences a b 0 a.length 1 = i :: rest ∧ Q (.int (i : Int)) H) := by
  intro pins s σ H x xs v us Q I rx rs h
  obtain ⟨a, b, i, rest, rfl, rfl, ho, h⟩ := h
  obtain ⟨t, rfl⟩ := rx
  cases rs with
  | cons r1 rs =>
    cases rs
    obtain ⟨u, rfl⟩ := r1
    refine call_gives F.slot_str_index (typeIs_str _ _ _) F.entry_str_index (F.args_str_index_2 _ _) (gives_str_index a b t u i rest ho) ?_
    exact ⟨.int i, H, I.tok _, ⟨_, rfl⟩, h⟩
theorem md_index {x y : Str} {i : Nat} {rest : List Nat} {Q : Bool → D → Prop} (ho : Builtin.Str.occurrences x y 0 x.length 1 = i :: rest) (q : Q false (.int (i : Int))) : MD X "str.index" x [.str y] Q := fun I H vs s r R k => by
  obtain ⟨v, rfl, r'⟩ := kd_one r
  rw [r'.str]
  exact ⟨_, mt_indexS, x, y, i, rest, rfl, rfl, ho, k.val s .mkInt q⟩
end
end Tt

/-! zip of two lists, drawn to its end while an exception is handled. -/
namespace Tt
open PySem PySem.Spec PyProof.Rows L2 PySem.W HotX
section
variable {prog : Program} {w : World} {A : Around} {E : Value → Shared → Prop} {s : Shared}
theorem hot_up {h h' : Heap} {x1 : Addr} (hot : HotAt A x1 h) (k : ∀ o, h.get? x1 = some o → h'.get? x1 = some o) : HotAt A x1 h' := by
  obtain ⟨a, o, vs, b, c, d⟩ := hot
  exact ⟨a, o, vs, k o b, c, d⟩
theorem list_end_hot {it l x1 : Addr} {i : Nat} {items} {Q : Value → Shared → Prop} (hot : HotAt A x1 s.heap)
    (hit : s.heap.IsListIter it l i) (hl : s.heap.IsList l items) (hx : items[i]? = none)
    (hE : ∀ h' e, Heap.ExtBut it s.heap h' → (∃ o, h'.get? e = some o ∧ o.cls = .type "StopIteration") → E (.ref e) { s with heap := h' }) :
    wpAny (model prog w) A (Builtin.SmallTypes.nextOf (.ref it)) Q E s := by
  obtain ⟨o, ho, hc, hd⟩ := id hit
  obtain ⟨ol, hol, _, nl, hdl⟩ := hl
  have hx1 : x1 ≠ it := by
    rintro rfl
    obtain ⟨_, o1, vs, e1, d1, c1⟩ := hot
    rw [ho] at e1
    cases e1
    rw [hd] at d1
    cases d1
    simp at c1
  unfold Builtin.SmallTypes.nextOf
  refine wpAny_bind (wpAny_callSpecial?_slot (name := Str.ofString "__next__") hit.typeIs slot_listiter_next
    (wpAny_call_entry slot_listiter_next hit.typeIs entry_listiter_next ?_ (args_listiter_next _)))
  show wpAny _ _ (field (.ref it) 0 >>= _) _ _ s
  refine wpAny_bind (wpAny_field ho hd (x := .ref l) rfl ?_)
  show wpAny _ _ (if (Value.ref l == Value.none) = true then _ else _) _ _ s
  rw [if_neg (show ¬ ((Value.ref l == Value.none) = true) from Bool.false_ne_true)]
  show wpAny _ _ (field (.ref it) 1 >>= _) _ _ s
  refine wpAny_bind (wpAny_field ho hd (x := .int i 0) rfl ?_)
  show wpAny _ _ (seqItems? (.ref l) >>= _) _ _ s
  refine wpAny_bind (wpAny_seqItems hol hdl ?_)
  simp only [Int.toNat_natCast, hx]
  refine wpAny_bind (wpAny_rule (wpAny_bind (wpAny_setField ho hd (by simp) ?_)))
  show wpAny _ _ (newExc (.type "StopIteration") [] >>= _) _ _ _
  refine wpAny_bind ?_
  simp only [newExc, newTuple]
  refine wpAny_bind (wpAny_newObj_type ?_ (by size_fits))
  refine wpAny_bind (m := firstArgMember _ _) (wpAny_of_eq (a := Value.none) (by first | rfl | (simp only [firstArgMember]; rfl)) ?_)
  refine wpAny_newObj_type ?_ (by size_fits)
  have kx : ∀ o1, s.heap.get? x1 = some o1 → (s.heap.update it (Obj.mapFields (·.setIfInBounds 0 .none))).get? x1 = some o1 := fun o1 e => by
    rw [Heap.get?_update_other _ _ (Ne.symm hx1)]
    exact e
  refine raiseNew_hot (hot_up hot fun o1 e => Heap.get?_push_of_some _ (Heap.get?_push_of_some _ (kx o1 e))) ?_ (Heap.get?_push_size _ rfl) rfl (by first | (simp; done) | (simp; omega) | (simp only [Array.size_append]; simp; omega)) ?_
  · obtain ⟨_, o1, vs1, h1, _⟩ := id hot
    exact Nat.ne_of_lt (Heap.lt_size (Heap.get?_push_of_some _ (kx o1 h1)))
  · refine hE _ _ ?_ ⟨_, Heap.get?_update_self _ (Heap.get?_push_size _ rfl) (by rfl), by rfl⟩
    intro b ob hb e
    have e2 : (s.heap.update it (Obj.mapFields (·.setIfInBounds 0 .none))).get? b = some ob := by
      rw [Heap.get?_update_other _ _ (Ne.symm hb)]
      exact e
    refine (Heap.get?_update_other _ _ (Nat.ne_of_gt (Heap.lt_size (Heap.get?_push_of_some _ e2)))).trans ?_
    exact Heap.get?_push_of_some _ (Heap.get?_push_of_some _ e2)
/-- zip of two lists at its end -/
theorem zip_end_hot {z TI TO i1 i2 l1 l2 x1 : Addr} {k1 k2 : Nat} {xs ys : Array Value} {a b : Value} {Q : PySem.Fin → Shared → Prop} (hot : HotAt A x1 s.heap) (D : ZipApart z TI TO i1 i2 l1 l2)
    (hz : IsZip s.heap z TI TO .none) (hTI : PySem.IsPair s.heap TI (.ref i1) (.ref i2)) (h1 : s.heap.IsListIter i1 l1 k1) (hl1 : s.heap.IsList l1 xs) (hx : xs[k1]? = none)
    (hE : ∀ h' e, (∀ c o, c ≠ z → c ≠ i1 → s.heap.get? c = some o → h'.get? c = some o) → (∃ o, h'.get? e = some o ∧ o.cls = .type "StopIteration") → E (.ref e) { s with heap := h' }) :
    wpAny (model prog w) A (Builtin.«zip.__next__» ⟨[.ref z], []⟩) Q E s := by
  have hxz : x1 ≠ z := by
    rintro rfl
    obtain ⟨_, o1, vs, e1, d1, c1⟩ := hot
    rw [hz] at e1
    cases e1
    cases d1
    simp at c1
  show wpAny _ _ (field (.ref z) 2 >>= _) _ _ _
  refine wpAny_bind (wpAny_field hz rfl (x := .bool false) rfl ?_)
  show wpAny _ _ (field (.ref z) 3 >>= _) _ _ _
  refine wpAny_bind (wpAny_field hz rfl (x := .ref TI) rfl ?_)
  refine wpAny_bind (wpAny_seqItems hTI rfl ?_)
  show wpAny _ _ (Builtin.SmallTypes.ownedTupleIsFree (.ref z) >>= _) _ _ _
  refine wpAny_bind ?_
  unfold Builtin.SmallTypes.ownedTupleIsFree
  refine wpAny_bind (wpAny_field hz rfl (x := .none) rfl (wpAny_pure ?_))
  simp only [if_true]
  refine wpAny_bind (wpAny_rule ?_)
  refine wpAny_bind (wpAny_field hz rfl (x := .ref TO) rfl ?_)
  refine wpAny_bind (wpAny_setField_rec hz (by simp) fun h₁ hz₁ hs₁ => ?_)
  replace hz₁ : IsZip h₁ z TI TO .ellipsis := hz₁
  refine wpAny_bind ?_
  simp only [List.zipIdx_cons, List.zipIdx_nil, List.forIn_cons, List.forIn_nil]
  refine wpAny_bind (wpAny_bind (wpAny_onRaise ?_))
  show wpAny _ _ (Builtin.SmallTypes.nextOf (.ref i1) >>= _) _ _ _
  refine wpAny_bind (list_end_hot (hot_up hot fun o q => hs₁.extBut _ _ hxz q) (h1.extBut hs₁.extBut D.i1z) (hl1.extBut hs₁.extBut D.l1z) hx fun h₂ e hs₂ he => ?_)
  obtain ⟨oe, hoe, hce⟩ := he
  have hz₂ : IsZip h₂ z TI TO .ellipsis := hs₂ _ _ D.i1z.symm hz₁
  have hez : e ≠ z := fun x => by subst x; rw [hz₂] at hoe; cases hoe; simp at hce
  exact wpAny_setField_rec hz₂ (by simp) fun h₃ _ hs₃ => hE h₃ e (fun c o c1 c3 x => hs₃.extBut _ _ c1 (hs₂ _ _ c3 (hs₁.extBut _ _ c1 x))) ⟨oe, hs₃.extBut _ _ hez hoe, hce⟩
theorem next_zip_end_hot {z TI TO i1 i2 l1 l2 x1 : Addr} {k1 k2 : Nat} {xs ys : Array Value} {a b : Value} {Q : Option Value → Shared → Prop} (hot : HotAt A x1 s.heap) (D : ZipApart z TI TO i1 i2 l1 l2)
    (hz : IsZip s.heap z TI TO .none) (hTI : PySem.IsPair s.heap TI (.ref i1) (.ref i2)) (h1 : s.heap.IsListIter i1 l1 k1) (hl1 : s.heap.IsList l1 xs) (hx : xs[k1]? = none)
    (hQ : ∀ h', (∀ c o, c ≠ z → c ≠ i1 → s.heap.get? c = some o → h'.get? c = some o) → Q none { s with heap := h' }) : wpAny (model prog w) A (pyNext (.ref z)) Q E s := by
  have hT : s.TypeIs (.ref z) "zip" := ⟨_, hz, rfl⟩
  unfold pyNext
  refine wpAny_bind (wpAny_attempt (wpAny_callSpecial?_slot (name := Str.ofString "__next__") hT F.slot_zip_next
    (wpAny_call_entry F.slot_zip_next hT F.entry_zip_next (zip_end_hot (k2 := k2) (a := a) (b := b) (ys := ys) hot D hz hTI h1 hl1 hx fun h' e hk he => ?_) (F.args_zip_next_1 _))))
  obtain ⟨o, ho, hc⟩ := he
  refine wpAny_bind (wpAny_isInstance (T := "StopIteration") (b := true) ⟨o, ho, hc⟩ isSubtype_stop ?_)
  exact wpAny_pure (hQ _ hk)
end
end Tt

/-! loops over zip of two lists while an exception is handled. -/
namespace Tt
open PySem PySem.Spec PyProof.Rows L2 L2H
/-- zip of the lists at a and b, the first one ends first -/
def ItzH (K : PySem.W.Frag) (a b : Addr) : It :=
  ⟨(Itz K a b).go, (Itz K a b).yld, fun i H => ∃ xs : List V, SqL K H a xs ∧ xs.length ≤ i⟩
theorem turn_zipH {P : Program} {w : World} {K : PySem.W.Frag} {elts : List Expr} {kk : Nat} {tpos : Pos} {a b z TI TO i1 i2 : Addr} (D : ZipApart z TI TO i1 i2 a b) :
    TurnH P w K (.Tuple elts kk tpos) (ItzH K a b) [z, TI, TO, i1, i2] z (fun i h => IsZip h z TI TO .none ∧ PySem.IsPair h TI (.ref i1) (.ref i2) ∧ (∃ x y, PySem.IsPair h TO x y) ∧ h.IsListIter i1 a i ∧ h.IsListIter i2 b i) where
  mem := List.mem_cons_self
  obj := fun i h st c hc => by
    obtain ⟨hz, hTI, ⟨x, y, hTO⟩, ⟨o1, e1, _, d1⟩, ⟨o2, e2, _, d2⟩⟩ := st
    simp only [List.mem_cons, List.not_mem_nil, or_false] at hc
    rcases hc with rfl | rfl | rfl | rfl | rfl
    · exact ⟨_, hz, fun v q => nomatch q⟩
    · exact ⟨_, hTI, fun v q => nomatch q⟩
    · exact ⟨_, hTO, fun v q => nomatch q⟩
    · exact ⟨o1, e1, fun v q => by rw [d1] at q; cases q⟩
    · exact ⟨o2, e2, fun v q => by rw [d2] at q; cases q⟩
  keep := fun i h h' st k => by
    obtain ⟨hz, hTI, ⟨x, y, hTO⟩, h1, h2⟩ := st
    exact ⟨k z (by simp) _ hz, k TI (by simp) _ hTI, ⟨x, y, k TO (by simp) _ hTO⟩, h1.at fun o q => k i1 (by simp) o q, h2.at fun o q => k i2 (by simp) o q⟩
  item := by
    intro X hP hw hK hc i pins s σ H E I hf st hg
    subst hP hw hK
    obtain ⟨hz, hTI, ⟨x0, y0, hTO⟩, h1, h2⟩ := st
    obtain ⟨xs, ys, x, y, hqx, hqy, hx, hy⟩ := hg
    obtain ⟨its, rv, p, _⟩ := I.list hqx
    obtain ⟨its2, rv2, p2, _⟩ := I.list hqy
    obtain ⟨u, hu, ru⟩ := rv.get hx
    obtain ⟨u2, hu2, ru2⟩ := rv2.get hy
    have hlt : ∀ c ∈ [z, TI, TO, i1, i2], c < s.heap.objs.size := fun c hcm => by
      simp only [List.mem_cons, List.not_mem_nil, or_false] at hcm
      rcases hcm with q | q | q | q | q <;> rw [q]
      · exact Heap.lt_size hz
      · exact Heap.lt_size hTI
      · exact Heap.lt_size hTO
      · obtain ⟨_, e1, _⟩ := h1; exact Heap.lt_size e1
      · obtain ⟨_, e2, _⟩ := h2; exact Heap.lt_size e2
    have hzl := hlt z List.mem_cons_self
    refine wpAny_pyNext_zip_item D hz hTI hTO h1 h2 p.isList p2.isList (x := u) (y := u2) (by simpa using hu) (by simpa using hu2) fun h' z' TO' h1' h2' hT hsz hk => ?_
    refine ⟨_, rfl, wpAny_letOwnedTupleGo_zip (s := { s with heap := h' }) z' fun h'' z'' sb => ?_⟩
    have hT2 : h''.get? s.heap.objs.size = some { cls := .type "tuple", data := .seq #[u, u2] } := (sb.2 _ (Nat.ne_of_gt hzl)).trans hT
    have old : ∀ c o, c ∉ [z, TI, TO, i1, i2] → s.heap.get? c = some o → h''.get? c = some o := fun c o hb q => by
      simp only [List.mem_cons, List.not_mem_nil, or_false, not_or] at hb
      exact (sb.2 c hb.1).trans (hk c o hb.1 hb.2.2.1 hb.2.2.2.1 hb.2.2.2.2 q)
    have new : ObjOk X.prog X.w (upd H s.heap.objs.size (.tup [x, y])) h'' s.heap.objs.size (.tup [x, y]) :=
      ⟨by show 2 ≤ sizeLine; decide, [u, u2], .cons ru (.cons ru2 .nil), ⟨_, hT2, rfl, _, rfl⟩⟩
    have I1 : Inv X pins σ (upd H s.heap.objs.size (.tup [x, y])) { s with heap := h'' } := I.turnedNew (t' := s.toks) (ch := [z, TI, TO, i1, i2]) old hf (Nat.le_refl _) new
    refine ⟨.ref s.heap.objs.size, _, I1, rfl, ⟨_, x, y, rfl, I.hok.fresh (Nat.le_refl _), rfl, fun l hl => by rw [I.list_inj hl hqx]; exact hx, fun l hl => by rw [I.list_inj hl hqy]; exact hy⟩, ⟨z'', ?_, ⟨u, u2, ?_⟩, ?_, ?_⟩, fun c hcm => ?_⟩
    · exact (sb.2 _ D.TIz).trans (hk _ _ D.TIz D.TITO D.TIi1 D.TIi2 hTI)
    · exact (sb.2 _ D.TOz).trans TO'
    · exact h1'.at fun o q => (sb.2 _ D.i1z).trans q
    · exact h2'.at fun o q => (sb.2 _ D.i2z).trans q
    · rw [upd_ne (Nat.ne_of_lt (hlt c hcm))]
      exact (hf c hcm).1
  done := by
    intro X hP hw hK hc i pins s σ H E I hf st hg
    subst hP hw hK
    obtain ⟨hz, hTI, _, h1, h2⟩ := st
    obtain ⟨xs, hqx, hend⟩ := hg
    obtain ⟨its, rv, p, _⟩ := I.list hqx
    have l1 := rv.length
    obtain ⟨x1, hot⟩ := hc.at I
    refine next_zip_end_hot (k2 := 0) (ys := #[]) (a := .none) (b := .none) hot D hz hTI h1 p.isList (by simp; omega) fun h' hk => ⟨rfl, I.turnedL (t' := s.toks) (ch := [z, TI, TO, i1, i2]) (fun c o hb q => ?_) hf⟩
    simp only [List.mem_cons, List.not_mem_nil, or_false, not_or] at hb
    exact hk c o hb.1 hb.2.2.2.1 q
  self := fun A i s Q E st h => wpAny_pyIter_zip st.1 h
def iZipH (K : PySem.W.Frag) (ta : TA) : TI := fun σ H R => ta σ H fun vs H1 => ∃ a b xs ys, vs = [.ref a, .ref b] ∧ SqL K H1 a xs ∧ SqL K H1 b ys ∧ R (ItzH K a b) H1
theorem pi_zipH {X : Cx} {e e2 : Expr} {ta : TA} {p pos tpos : Pos} {elts : List Expr} {kk : Nat} (hg : Gl X "zip") (hm : X.mg "zip" = none) (ha : PA X [e, e2] ta)
    (hs : starEach [e, e2] X.env = (false, eval e X.env) :: starEach [e2] X.env := by rfl) (hpl : (backTo pos (starEach [e2] X.env)).any (·.1) = false := by rfl) :
    PIH X (.Tuple elts kk tpos) (.Call (.Name "zip" p) [e, e2] [] pos) (iZipH X.K ta) := by
  refine ⟨fun pins s σ H R I h => ?_⟩
  refine Call_ (ld_blt I hg hm PyProof.Rows.boot_zip (PyProof.Rows.callWith_type1 (thn (ha.run pos pins s σ H _ I h) fun us s1 ⟨vs, H1, I1, r1, q1⟩ => ?_) hs hpl))
  obtain ⟨a, b, xs, ys, ex, hqx, hqy, q⟩ := q1
  subst ex
  cases r1 with
  | cons r rr =>
    cases rr with
    | cons r' rr =>
      cases rr
      cases r
      cases r'
      obtain ⟨its, rv, p1, _⟩ := I1.list hqx
      obtain ⟨its2, rv2, p2, _⟩ := I1.list hqy
      refine call_zip_2 p1.isList p2.isList fun h' hz hTI hTO h1 h2 hsz hk => wpAny_pyIter_zip hz ?_
      have I2 : Inv X pins σ H1 { s1 with heap := h' } := I1.kept (t' := s1.toks) hk
      refine ⟨s1.heap.objs.size + 4, [s1.heap.objs.size + 4, s1.heap.objs.size + 2, s1.heap.objs.size + 3, s1.heap.objs.size, s1.heap.objs.size + 1], _, _, H1, rfl, I2, turn_zipH (PySem.W.ktu_apart s1.heap.objs.size a b p1.lt p2.lt), ⟨hz, hTI, ⟨_, _, hTO⟩, h1, h2⟩, fun c hcm => ?_, q⟩
      have hle : s1.heap.objs.size ≤ c := by
        have e' : c = s1.heap.objs.size + 4 ∨ c = s1.heap.objs.size + 2 ∨ c = s1.heap.objs.size + 3 ∨ c = s1.heap.objs.size ∨ c = s1.heap.objs.size + 1 := by simpa using hcm
        rcases e' with z | z | z | z | z <;> rw [z]
        · exact Nat.le_add_right _ _
        · exact Nat.le_add_right _ _
        · exact Nat.le_add_right _ _
        · exact Nat.le_refl _
        · exact Nat.le_add_right _ _
      exact I1.fpOk hle (I1.hok.fresh hle)
end Tt

/-! a list comprehension while an exception is handled. -/
namespace Tt
open PySem PySem.Spec PyProof.Rows L2 L2H
/-- the block of a comprehension in which the handled exception stands, too -/
abbrev blkH (X : Cx) (p : Addr × Obj) (s : Shared) (H : Hp) (scope : Scope) (cenv : Env) (fp : List Addr) : Cx := { X.blk s H scope cenv fp with pn := [p] }
section
variable {X : Cx} {p : Addr × Obj}
theorem blkH_of {s0 s : Shared} {H0 H : Hp} {scope : Scope} {cenv : Env} {fp : List Addr} {σ : L2.St} (I : Inv (X.blk s0 H0 scope cenv fp) [] σ H s)
    (h : s.heap.get? p.1 = some p.2 ∧ H p.1 = none ∧ p.1 ≠ cenv.locals ∧ p.1 ∉ (X.blk s0 H0 scope cenv fp).fs ∧ ∀ v, p.2.data ≠ .cell v) : Inv (blkH X p s0 H0 scope cenv fp) [] σ H s :=
  ⟨⟨I.ok.mod, I.ok.kind, I.ok.glob, I.ok.blt, I.ok.above, I.ok.inj, I.ok.has, I.ok.cab, I.ok.hd, I.ok.frames, I.ok.stk, I.ok.exf, I.ok.bs, I.ok.bsz, I.ok.noex, I.ok.exfs, I.ok.funs, I.ok.frf⟩, I.os, I.bare, I.base, I.loc, I.cell, I.free, I.freeC,
    fun q hq => by
      have e : q = p := by simpa using (show q ∈ [p] ++ ([] : List (Addr × Obj)) from hq)
      rw [e]
      exact h, I.hok, I.len⟩
theorem pe_lcH {elt tg iter : Expr} {ifs : List Expr} {scope : Scope} {own : List (Str × Nat)} {pos : Pos} {wi : TI} {g : TG} {tt : TT} {te : TE} (hot : Hot1 X.A p) (hp : p ∈ X.pn) (hN : X.N.Nodup) (hi : PIH X tg iter wi) (ok : BlkOk X.N X.env.scope scope own)
    (hg : ∀ (s : Shared) (H : Hp) (C : Addr) (cl : List (Str × Addr)) (fp : List Addr), PG (blkH X p s H scope (compEnvC scope cl C X.env) fp) tg g) (ht : ∀ (s : Shared) (H : Hp) (C : Addr) (cl : List (Str × Addr)) (fp : List Addr), PTs (blkH X p s H scope (compEnvC scope cl C X.env) fp) ifs tt)
    (he : ∀ (s : Shared) (H : Hp) (C : Addr) (cl : List (Str × Addr)) (fp : List Addr), PE (blkH X p s H scope (compEnvC scope cl C X.env) fp) elt te) (hs : ∀ x, foldedSetIterable iter X.env x = pure x := by intro _; rfl) :
    PE X (.ListComp elt [⟨tg, iter, ifs, 0⟩] scope pos) (tLc wi g tt te (own.map (·.2))) := by
  refine ⟨fun pins s σ H Q I h => ?_⟩
  rw [eval_ListComp]
  have hfree : ∀ y ∈ scope.names, y.2 = .free → ∃ c, X.env.cells.lookup y.1 = some c := fun y hy e => (ok.free y hy e).elim (fun k => I.ok.has _ (.inl k)) fun k => I.ok.has _ (.inr k)
  refine wpAny_comprehension_free (use := none) rfl hs (closure_ok hfree) ok.kind (fun y hy e => by rw [ok.uniq y hy, e]) (thn (hi.run pins s σ H _ I h) fun xv s1 hx => thn hx fun itv s2 h2 => ?_)
  obtain ⟨it, fp, tn, J, H2, e, I2, T, st2, f2, q⟩ := h2
  subst e
  refine wpAny_newObj_type (newEnv_comp ?_) (by show 0 ≤ sizeLine; decide)
  generalize hD : s2.heap.objs.size = D
  obtain ⟨W, ⟨m0, w0⟩, turn⟩ := q D (I2.hok.fresh (Nat.le_of_eq hD))
  generalize hs3 : ({ s2 with heap := s2.heap.push { cls := .type "list", data := .seq ([] : List Value).toArray } } : Shared) = s3
  have I3 : Inv X pins σ (upd H2 D (.lst [])) s3 := by
    rw [← hs3]
    refine I2.laid (t' := s2.toks) (fun b o e => Heap.get?_push_of_some _ e) (Nat.le_of_eq hD) ⟨Nat.zero_le _, [], 0, .nil, ?_⟩
    rw [← hD]
    exact Heap.get?_push_size _ rfl
  have h3 : s3.heap = s2.heap.push { cls := .type "list", data := .seq ([] : List Value).toArray } := by rw [← hs3]
  have sz : ∀ b ∈ fp, b < s2.heap.objs.size := fun b hb => by
    obtain ⟨o, e, _⟩ := T.obj _ _ st2 b hb
    exact Heap.lt_size e
  have f3 : ∀ b ∈ fp, FpOk X pins (upd H2 D (.lst [])) b ∧ b < s3.heap.objs.size := fun b hb => by
    have hlt := sz b hb
    refine ⟨⟨?_, (f2 b hb).2⟩, by rw [h3, Heap.size_push]; exact Nat.lt_succ_of_lt hlt⟩
    rw [upd_ne (by rw [← hD]; exact Nat.ne_of_lt hlt)]
    exact (f2 b hb).1
  have st3 : tn 0 s3.heap := T.keep _ _ _ st2 fun b _ o e => by rw [h3]; exact Heap.get?_push_of_some _ e
  have I4 := block_start I3 ok hN f3
  have pg := hg s3 (upd H2 D (.lst [])) s3.heap.objs.size (cellsFrom (s3.heap.objs.size + 1) scope.names (cloFrom X.env.cells scope.names [])) fp
  have pt := ht s3 (upd H2 D (.lst [])) s3.heap.objs.size (cellsFrom (s3.heap.objs.size + 1) scope.names (cloFrom X.env.cells scope.names [])) fp
  have pe := he s3 (upd H2 D (.lst [])) s3.heap.objs.size (cellsFrom (s3.heap.objs.size + 1) scope.names (cloFrom X.env.cells scope.names [])) fp
  show codeAny _ _ (.compStart (.ListComp elt [⟨tg, iter, ifs, 0⟩] scope pos) 0 (.ref it) (.ref D) (compEnvC scope (cellsFrom (s3.heap.objs.size + 1) scope.names (cloFrom X.env.cells scope.names [])) s3.heap.objs.size X.env)) (compPost (model X.prog X.w) X.A X.xe none (EP X pins σ Q) (.ref D) s3.heap.objs.size) { s3 with heap := pushCells (s3.heap.push { cls := .type "dict", data := .dict #[] }) scope.names }
  have nfp : ∀ b ∈ fp, (upd H2 D (.lst [])) b = none := fun b hb => (f3 b hb).1.1
  have p3 := I3.pin p (List.mem_append_left _ hp)
  have pfp : p.1 ∉ fp := fun hm => (f2 p.1 hm).2.2.2.2.2 p (List.mem_append_left _ hp) rfl
  generalize hce : compEnvC scope (cellsFrom (s3.heap.objs.size + 1) scope.names (cloFrom X.env.cells scope.names [])) s3.heap.objs.size X.env = ce at I4 pg pt pe ⊢
  have cL : ce.locals = s3.heap.objs.size := by subst hce; rfl
  generalize hH3 : upd H2 D (.lst []) = H3 at I3 I4 pg pt pe w0 nfp f3 p3
  generalize hs4 : ({ s3 with heap := pushCells (s3.heap.push { cls := .type "dict", data := .dict #[] }) scope.names } : Shared) = s4 at I4 ⊢
  have k4 : ∀ b o, s3.heap.get? b = some o → s4.heap.get? b = some o := fun b o e => by rw [← hs4]; exact pushCells_keeps _ _ _ _ (Heap.get?_push_of_some _ e)
  have st4 : tn 0 s4.heap := T.keep _ _ _ st3 fun b _ o e => k4 b o e
  have pstk : p.1 ∉ (X.blk s3 H3 scope ce fp).fs := by
    intro hm
    have hm : p.1 ∈ frs X.stack := hm
    rcases I3.ok.stk with e | ⟨e, ef⟩
    · rw [e] at hm
      exact p3.2.2.2.1 hm
    · rw [e] at hm
      obtain ⟨en, me, q⟩ := List.mem_filterMap.mp hm
      rcases List.mem_cons.mp me with rfl | me
      · rw [ef] at q
        exact p3.2.2.1 (Option.some.inj q).symm
      · exact p3.2.2.2.1 (List.mem_filterMap.mpr ⟨en, me, q⟩)
  have I4' : Inv (blkH X p s3 H3 scope ce fp) [] (wipe σ (own.map (·.2))) H3 s4 := blkH_of I4 ⟨k4 _ _ p3.1, p3.2.1, by rw [cL]; exact Nat.ne_of_lt (Heap.lt_size p3.1), pstk, p3.2.2.2.2⟩
  have hc : HotC (blkH X p s3 H3 scope ce fp) := ⟨p, hot, List.mem_singleton.mpr rfl⟩
  have stat : ∀ {σ' : L2.St} {H' : Hp} {s' : Shared}, Inv (blkH X p s3 H3 scope ce fp) [] σ' H' s' → (∀ b ∈ fp, H' b = none) → ∀ b ∈ fp, FpOk (blkH X p s3 H3 scope ce fp) [] H' b := fun {σ' H' s'} I' hn b hb =>
    ⟨hn b hb, (I'.ok.exf b hb).1, I'.ok.exfs b hb, .inl hb, fun x c e => (I'.ok.exf b hb).2 x c e, fun q hq => by
      have e : q = p := by simpa using (show q ∈ [p] ++ ([] : List (Addr × Obj)) from hq)
      rw [e]
      rintro rfl
      exact pfp hb⟩
  have loop : codeAny (model X.prog X.w) X.A (.compLoop (.ListComp elt [⟨tg, iter, ifs, 0⟩] scope pos) 0 (.ref it) (.ref D) ce) (compPost (model X.prog X.w) X.A X.xe none (EP X pins σ Q) (.ref D) s3.heap.objs.size) s4 := by
    refine compLoop_any (fun n s' => ∃ i H', Inv (blkH X p s3 H3 scope ce fp) [] (wipe σ (own.map (·.2))) H' s' ∧ tn i s'.heap ∧ (∀ b ∈ fp, H' b = none) ∧ W i n H') ?_ m0 ⟨0, H3, I4', st4, nfp, w0⟩
    rintro n s5 ⟨i, H5, I5, st5, n5, w5⟩
    rcases turn i n H5 w5 with ⟨stop, qq⟩ | ⟨go, Nx, hNx, step⟩
    · refine thnF (T.done (blkH X p s3 H3 scope ce fp) rfl rfl rfl hc i [] s5 _ H5 (fun _ _ => False) I5 (stat I5 n5) st5 stop) fun r s6 ⟨hr, I6⟩ => ?_
      subst hr
      have I7 : Inv X pins σ H5 s6 := I3.call' (ch := fp) I6.os I6.base I6.hok I6.bare fun b hb => ⟨(f3 b hb).1.2.2.2.1, (f3 b hb).1.2.1, (f3 b hb).1.2.2.2.2.1, (f3 b hb).1.2.2.2.2.2⟩
      have nC : H5 s3.heap.objs.size = none := by
        have z : H5 ce.locals = none := I6.free
        rwa [cL] at z
      obtain ⟨m, hn, _⟩ := I6.loc
      have hn : s6.heap.Ns ce.locals m := hn
      rw [cL] at hn
      obtain ⟨f0, f1, _, f3', f4, f5⟩ := I3.fpOk (Nat.le_refl _) nC
      refine ⟨m, hn, fun h'' sb => ?_⟩
      exact ⟨.ref D, H5, I7.turned (t' := s6.toks) (fun b o hb e => (sb.2 b hb).trans e) f0 f1 f3' f4 f5, rfl, qq⟩
    · refine thnF (T.item (blkH X p s3 H3 scope ce fp) rfl rfl rfl hc i [] s5 _ H5 (fun _ _ => False) I5 (stat I5 n5) st5 go) fun r s6 ⟨u, hr, h6⟩ => ?_
      subst hr
      refine thnF h6 fun _ s7 ⟨x, H7, I7, r7, y7, st7, n7⟩ => ?_
      have I7' := I7.pinned (stat I7 n7) (T.obj _ _ st7)
      refine thnF (pg.run _ s7 _ H7 x u _ I7' r7 (step x H7 y7)) fun _ s8 ⟨σ8, H8, I8, hw8, q8⟩ => ?_
      refine thnF (pt.run _ s8 σ8 H8 _ I8 q8) fun b s9 ⟨H9, I9, q9⟩ => ?_
      have fin : ∀ {s' : Shared} {H' : Hp}, Inv (blkH X p s3 H3 scope ce fp) ([] ++ pinsAt fp s7.heap) σ8 H' s' → Nx H' → ∃ m, m < n ∧ ∃ i H', Inv (blkH X p s3 H3 scope ce fp) [] (wipe σ (own.map (·.2))) H' s' ∧ tn i s'.heap ∧ (∀ b ∈ fp, H' b = none) ∧ W i m H' := fun {s' H'} I' nx => by
        obtain ⟨m', hm, w'⟩ := hNx H' nx
        have pin' : ∀ b ∈ fp, ∀ o, s7.heap.get? b = some o → s'.heap.get? b = some o ∧ H' b = none := fun b hb o e =>
          let z := I'.pin (b, o) (List.mem_append_right _ (List.mem_append_right _ (mem_pinsAt hb e)))
          ⟨z.1, z.2.1⟩
        have hl : (wipe σ (own.map (·.2))).length = σ8.length := by rw [← hw8, wipe_length]
        refine ⟨m', hm, i + 1, H', (I'.unpinned (pins := [])).weak hl (fun j v e => ?_), T.keep _ _ _ st7 fun b hb o e => (pin' b hb o e).1, fun b hb => ?_, w'⟩
        · rw [← hw8] at e
          exact (wipe_some e).1
        · obtain ⟨o, e, _⟩ := T.obj _ _ st7 b hb
          exact (pin' b hb o e).2
      cases b with
      | false =>
        simp only [Bool.false_eq_true, if_false] at q9 ⊢
        exact fin I9 q9
      | true =>
        simp only [if_true] at q9 ⊢
        refine thnF (pe.run _ s9 σ8 H9 _ I9 q9) fun z s10 ⟨yv, H10, I10, r10, acc, hD10, hz10, nx⟩ => ?_
        exact app_ok (X := blkH X p s3 H3 scope ce fp) I10 hD10 hz10 r10 fun s11 I11 => fin I11 nx
  exact codeAny_compStart_list loop (T.self X.A 0 _ _ _ st4 loop)
end
end Tt

/-! defs that run while an exception is handled, and are told which one. -/
namespace Tt
open PySem PySem.Spec PyProof.Rows L2 L2H
/-- a def's promise: sp may speak of the exception that is handled -/
structure FnP (P : Program) (w : World) (K : PySem.W.Frag) (mg : Str → Option Value) (base : Heap) (CX : CXT) (k : Nat) (f : Addr) (fd : FuncData) (ps : List Str) (sp : Addr × Obj → Sp) : Prop where
  len : ∀ p vs H Q E, sp p vs H Q E → vs.length = ps.length
  run : ∀ (A : Around) (outer : List Env) (s : Shared) (H : Hp) (args : Args) (us : List Value) (vs : List V) (Q : VK) (E : XK) (p : Addr × Obj), RoomH k A → Hot1 A p → PinOk outer H s p → Env0 P w K mg base A outer s H → BindsTo s fd args (ps.zip us) → Vals vs us → sp p vs H Q E →
    codeAny (model P w) A (.call (.ref f) args) (CR CX outer P w H s Q E) s
theorem fnP_of {CX : CXT} {P : Program} {w : World} {K : PySem.W.Frag} {mg : Str → Option Value} {base : Heap} {k : Nat} {f : Addr} {name qual : Str} {params : Arguments} {body : List Stmt} {scope : Scope} {dV kV doc pm cdv ct oc : Value} {an od : Option Addr}
    {osl : Array (Option Value)} {N ps : List Str} {sp : Addr × Obj → Sp} (lk : K.lookup f = some ⟨oc, od, .func (PySem.W.fnOf name qual params body scope dV kV doc pm an cdv ct), osl⟩) (hcd : PySem.W.codeIn K cdv qual = true) (S : FnScope N ps scope)
    (len : ∀ p vs H Q E, sp p vs H Q E → vs.length = ps.length)
    (hbody : ∀ (A : Around) (outer : List Env) (s : Shared) (H : Hp) (vs : List V) (Q : VK) (E : XK) (p : Addr × Obj), Hot1 A p → RoomH k (A.deeper (envOfC qual scope s.heap.objs.size f cdv)) → sp p vs H Q E →
      ∃ t, PSs (cxH CX P w K mg base N qual scope f cdv A outer s H E p) body t ∧ t { nx := fun _ H' => Q .non H', rt := Q } (L2.start N vs) H) :
    FnP P w K mg base CX (k + 1) f (PySem.W.fnOf name qual params body scope dV kV doc pm an cdv ct) ps sp := by
  refine ⟨len, fun A outer s H args us vs Q E p hr hot hpin e0 hb r hsp => ?_⟩
  have hl := len _ _ _ _ _ hsp
  have KX : K.In s.heap := e0.mod.kin.keeps fun b o e => (e0.bs b o e).1
  have lim : s.heap.NoLimit := e0.mod.nolimit.keeps fun b o e => (e0.bs b o e).1
  have hkind : ∀ y ∈ ps.zip us, scope.names.lookup y.1 = some .local ∨ (scope.names.lookup y.1 = some .cell ∧ ((cellsFrom (s.heap.objs.size + 1) scope.names []).lookup y.1).isSome = true) := fun ⟨n, v⟩ hy =>
    (S.par n (List.of_mem_zip hy).1).elim .inl fun q => .inr ⟨q, PySem.W.cellsFrom_some _ _ _ (.inl q)⟩
  refine codeAny_call_function hr.depth (KX _ _ lk) rfl S.co S.gen rfl (PySem.W.codeRec_of KX hcd) (hb _ _ _ _ ?_)
  refine wpAny_newFunctionEnv_cells S.kind hkind fun env he s1 x => ?_
  subst he
  refine ⟨lim.keeps x.toInCall.keep, codeAny_func ?_⟩
  obtain ⟨t, ht, hq⟩ := hbody A outer s H vs Q E p hot (hr.deeper _) hsp
  refine wpAny_mono (ht.run [] s1 (L2.start N vs) H _ (inv_startH S hpin e0 hl r x) hq) (fun fl s' hs => ?_) fun e s' hs => hs
  cases fl with
  | ret u =>
    obtain ⟨v, σ', H', J, rv, q⟩ := hs
    exact ⟨v, H', J.os, J.bare, J.base, J.hok, rv, q⟩
  | next =>
    obtain ⟨σ', H', J, q⟩ := hs
    exact ⟨.non, H', J.os, J.bare, J.base, J.hok, rfl, q⟩
  | brk =>
    obtain ⟨_, _, _, q⟩ := hs
    exact q.elim
  | cont =>
    obtain ⟨_, _, _, q⟩ := hs
    exact q.elim
section
variable {X : Cx} {CX : CXT} {k : Nat} {f : Addr} {fd : FuncData} {ps : List Str} {sp : Addr × Obj → Sp} {E : L2.St → XK} {x : Str} {q pos : Pos} {e : Expr} {es : List Expr} {t : TA} {p : Addr × Obj}
theorem pe_callP (F : FnP X.prog X.w X.K X.mg X.base CX k f fd ps sp) (hr : RoomH k X.A) (hot : Hot1 X.A p) (hp : p ∈ X.pn) (hg : Gl X x) (hm : X.mg x = some (.ref f)) (hk : PySem.W.keepIn X.K (.ref f) = true) (hb : Binds X.K fd ps []) (hx : ∀ σ, PassesAt CX X σ (E σ))
    (ha : PA X (e :: es) t) (hdb : (x == ("__debug__" : Str)) = false := by decide) (he : starEach (e :: es) X.env = (false, eval e X.env) :: starEach es X.env := by rfl) (hpl : (backTo pos (starEach es X.env)).any (·.1) = false := by rfl) :
    PE X (.Call (.Name x q) (e :: es) [] pos) (tCallS (sp p) E t) := by
  refine ⟨fun pins s σ H Q I h => ?_⟩
  refine wpAny_Call_Name_kw (ld_glob I hg hm ?_ hdb)
  refine PySem.W.callWith_K (h₀ := X.base) I.ok.mod.kin hk (thn (ha.run pos pins s σ H _ I h) fun us s1 ⟨vs, H1, I1, r, q⟩ => ⟨I1.kIn, ?_⟩) he hpl
  have hl : us.length = ps.length := by rw [← r.length]; exact F.len _ _ _ _ _ q
  have b := hb s1 us I1.kIn (by rw [List.append_nil]; exact hl)
  rw [List.append_nil] at b
  have P1 := I1.pin p (List.mem_append_left _ hp)
  have hpin : PinOk X.stack H1 s1 p := ⟨P1.1, P1.2.1, fun hm => (List.mem_cons.mp (I1.stkSub p.1 hm)).elim P1.2.2.1 P1.2.2.2.1, P1.2.2.2.2⟩
  refine wpAny_call (codeAny_mono (F.run X.A X.stack s1 H1 ⟨us, []⟩ us vs Q (E σ) p hr hot hpin I1.env0 b r q) fun r s' hq => ?_)
  cases r with
  | error e => exact hx σ pins H1 s1 e s' I1 hq
  | ok fl =>
    cases fl with
    | ret u => exact I1.after hq
    | next => exact hq.elim
    | brk => exact hq.elim
    | cont => exact hq.elim
end
end Tt

/-! a tuple taken apart while an exception is handled. -/
namespace Tt
open PySem PySem.Spec PyProof.Rows L2 L2H HotX
section
variable {prog : Program} {w : World} {A : Around} {E : Value → Shared → Prop} {s : Shared}
theorem tup_end_hot {it t x1 : Addr} {i : Nat} {items} {Q : Option Value → Shared → Prop} (hot : HotAt A x1 s.heap)
    (hit : IsTupIter s.heap it t i) (ht : IsTup s.heap t items) (hx : items[i]? = none)
    (hQ : ∀ h', Heap.ExtBut it s.heap h' → Q none { s with heap := h' }) : wpAny (model prog w) A (pyNext (.ref it)) Q E s := by
  obtain ⟨o, ho, hc, hd⟩ := id hit
  obtain ⟨ol, hol, _, nl, hdl⟩ := ht
  have hx1 : x1 ≠ it := by
    rintro rfl
    obtain ⟨_, o1, vs, e1, d1, c1⟩ := hot
    rw [ho] at e1
    cases e1
    rw [hd] at d1
    cases d1
    simp at c1
  unfold pyNext
  refine wpAny_bind (wpAny_attempt (wpAny_callSpecial?_slot (name := Str.ofString "__next__") hit.typeIs slot_tupleiter_next
    (wpAny_call_entry slot_tupleiter_next hit.typeIs entry_tupleiter_next ?_ (args_tupleiter_next _))))
  show wpAny _ _ (field (.ref it) 0 >>= _) _ _ s
  refine wpAny_bind (wpAny_field ho hd (x := .ref t) rfl ?_)
  show wpAny _ _ (if (Value.ref t == Value.none) = true then _ else _) _ _ s
  rw [if_neg (show ¬ ((Value.ref t == Value.none) = true) from Bool.false_ne_true)]
  show wpAny _ _ (field (.ref it) 1 >>= _) _ _ s
  refine wpAny_bind (wpAny_field ho hd (x := .int i 0) rfl ?_)
  show wpAny _ _ (seqItems? (.ref t) >>= _) _ _ s
  refine wpAny_bind (wpAny_seqItems hol hdl ?_)
  simp only [Int.toNat_natCast, hx]
  refine wpAny_bind (wpAny_rule (wpAny_bind (wpAny_setField ho hd (by simp) ?_)))
  show wpAny _ _ (newExc (.type "StopIteration") [] >>= _) _ _ _
  refine wpAny_bind ?_
  simp only [newExc, newTuple]
  refine wpAny_bind (wpAny_newObj_type ?_ (by size_fits))
  refine wpAny_bind (m := firstArgMember _ _) (wpAny_of_eq (a := Value.none) (by first | rfl | (simp only [firstArgMember]; rfl)) ?_)
  refine wpAny_newObj_type ?_ (by size_fits)
  have kx : ∀ b ob, b ≠ it → s.heap.get? b = some ob → (s.heap.update it (Obj.mapFields (·.setIfInBounds 0 .none))).get? b = some ob := fun b ob n e => by
    rw [Heap.get?_update_other _ _ (Ne.symm n)]
    exact e
  refine raiseNew_hot (hot_up hot fun o1 e => Heap.get?_push_of_some _ (Heap.get?_push_of_some _ (kx _ o1 hx1 e))) ?_ (Heap.get?_push_size _ rfl) rfl (by first | (simp; done) | (simp; omega) | (simp only [Array.size_append]; simp; omega)) ?_
  · obtain ⟨_, o1, vs1, h1, _⟩ := id hot
    exact Nat.ne_of_lt (Heap.lt_size (Heap.get?_push_of_some _ (kx _ o1 hx1 h1)))
  refine wpAny_bind (wpAny_isInstance (T := "StopIteration") (b := true) ⟨_, Heap.get?_update_self _ (Heap.get?_push_size _ rfl) (by rfl), by rfl⟩ isSubtype_stop ?_)
  refine wpAny_pure (hQ _ fun b ob hb e => ?_)
  refine (Heap.get?_update_other _ _ (Nat.ne_of_gt (Heap.lt_size (Heap.get?_push_of_some _ (kx b ob hb e))))).trans ?_
  exact Heap.get?_push_of_some _ (Heap.get?_push_of_some _ (kx b ob hb e))
theorem items_hot {t x1 : Addr} {items : Array Value} {Q : List Value → Shared → Prop} (hot : HotAt A x1 s.heap) (ht : IsTup s.heap t items)
    (hQ : ∀ h', Heap.ExtBut s.heap.objs.size s.heap h' → Q items.toList { s with heap := h' }) : wpAny (model prog w) A (unpackItems (.ref t) items.size none) Q E s := by
  have hlt : t ≠ s.heap.objs.size := by obtain ⟨o, ho, _⟩ := ht; exact Nat.ne_of_lt (Heap.lt_size ho)
  have hx : x1 ≠ s.heap.objs.size := by obtain ⟨_, o1, vs, e1, _⟩ := id hot; exact Nat.ne_of_lt (Heap.lt_size e1)
  unfold unpackItems
  refine wpAny_bind ?_
  unfold notIterableAtAll
  refine wpAny_bind (wpAny_specialOf ht.typeIs slot_tuple_iter.lookup ?_)
  refine wpAny_pure ?_
  simp only [Bool.false_eq_true, if_false]
  refine wpAny_bind (wpAny_holding (iter_tuple ht ?_))
  refine wpAny_bind (wpAny_holding (draw_tuple hlt items.size 0 _ _ ⟨_, Heap.get?_push_size _ rfl, rfl, rfl⟩ (ht.push _) (by omega) fun h₁ hit₁ hs₁ => ?_))
  rw [show List.take items.size (List.drop 0 items.toList) = items.toList by rw [List.drop_zero]; exact List.take_of_length_le (by simp), if_neg (by simp)]
  refine wpAny_bind (wpAny_holding (tup_end_hot (hot_up hot fun o1 e => hs₁.extBut _ _ hx (Heap.get?_push_of_some _ e)) hit₁ ((ht.push _).extBut hs₁.extBut hlt) (by simp) fun h₂ he₂ => ?_))
  simp only [Option.isSome_none, Bool.false_eq_true, if_false]
  exact wpAny_pure (hQ h₂ fun b o hb e => he₂ b o hb (hs₁.extBut b o hb (Heap.get?_push_of_some _ e)))
end
theorem pg_tupH {X : Cx} {es : List Expr} {k : Nat} {t : TGs} {n : Nat} {pos : Pos} (hc : HotC X) (h : PGs X es t)
    (hn : (assignEach es X.env).length = n := by rfl) (hst : (assignEach es X.env).findIdx? (·.1) = none := by rfl) : PG X (.Tuple es k pos) (gTup X.K n t) := by
  refine ⟨fun pins s σ H v u Q I r hw => ?_⟩
  obtain ⟨a, xs, e1, hq, hl, hw⟩ := hw
  subst e1
  cases r
  obtain ⟨its, rv, ht, hz⟩ := I.tuple hq
  obtain ⟨x1, hot⟩ := hc.at I
  rw [assign_Tuple]
  refine wpAny_bind (wpAny_standAt ?_)
  unfold unpack
  rw [show (assignEach es X.env).length = its.toArray.size by simp [hn, ← hl, rv.length], hst]
  refine wpAny_bind (wpAny_holding (items_hot hot ht fun h' hx => ?_))
  have I1 : Inv X pins σ H { s with heap := h' } := I.kept (t' := s.toks) fun b o e => hx b o (Nat.ne_of_lt (Heap.lt_size e)) e
  exact h.run pins _ σ H xs _ Q I1 (by simpa using rv) hw
end Tt

/-! what is told of the exception that is handled. -/
namespace Tt
open PySem PySem.Spec PyProof.Rows L2 L2H
/-- isinstance(e, c), e the exception that is handled -/
theorem call_isP {X : Cx} {D : Addr} {p : Addr × Obj} (hp : p ∈ X.pn) (C : ExcC X.K D) (hz : Zc (.ref D) none p.2) (hf : ∃ vs, p.2.data = .fields vs) : CallR X (.builtin "isinstance") (rIsE X.K D p.1) := by
  intro pins s σ H xs us Q I r h
  obtain ⟨c, cv, b, rfl, hcv, e, q⟩ := h
  cases r with
  | cons rx rr =>
    cases rr with
    | cons rt rr =>
      cases rr
      cases rx
      have ec := hcv _ rt
      subst ec
      obtain ⟨hget, _⟩ := I.pin p (List.mem_append_left _ hp)
      obtain ⟨vs, hv⟩ := hf
      have J : PySem.W.InstAt s.heap p.1 p.2 D none := by
        obtain ⟨a, oc, od, oda, osl⟩ := p
        obtain ⟨h1, h2⟩ := hz
        dsimp only at h1 h2 hv
        subst h1 h2 hv
        exact ⟨hget, rfl, rfl, trivial⟩
      exact PySem.W.kia_one (PySem.W.handS_kitx_exc C.hg C.hk C.hs C.hd C.ha C.hn C.ht C.hm) I.kIn J e (fun z => nomatch z) fun tk => ⟨.bl b, H, I.kept (t' := tk) fun _ _ z => z, rfl, q⟩
section
variable {X : Cx} {m : Bool} {ρ : List Sl} {W : Wx} {pos pf pe tp : Pos} {Q : Bool → D → List Sl → Prop} {p : Addr × Obj} {D C : Addr} {b : Bool}
theorem em_isP (i : Nat) {ex cx : Str} (hp : p ∈ X.pn) (Ce : ExcC X.K D) (hz : Zc (.ref D) none p.2) (hf : ∃ vs, p.2.data = .fields vs) (hm : X.mg "isinstance" = none) (hC : X.mg cx = some (.ref C)) (hk : PySem.W.kitOne X.K (.ref D) (.ref C) = some b)
    (h0 : ρ[i]? = some (.rw (.ref p.1))) (q : Q false (.bool b) ρ) (hN : X.N[i]? = some ex := by rfl) (hv : Vis X.env.scope ex := by first | exact Or.inl rfl | exact Or.inr (Or.inl rfl) | exact Or.inr (Or.inr rfl))
    (hd : (ex == ("__debug__" : Str)) = false := by decide) (hcd : (ex == ("__classdict__" : Str)) = false := by decide) (hg : Gl X "isinstance" := by rfl) (hgC : Gl X cx := by rfl) (hdC : (cx == ("__debug__" : Str)) = false := by decide)
    (he : starEach [.Name ex pe, .Name cx tp] X.env = (false, eval (.Name ex pe) X.env) :: starEach [.Name cx tp] X.env := by rfl) (he2 : starEach [.Name cx tp] X.env = (false, eval (.Name cx tp) X.env) :: starEach [] X.env := by rfl) (hpl : (backTo pos (starEach [.Name cx tp] X.env)).any (·.1) = false := by rfl) :
    EM m X (.Call (.Name "isinstance" pf) [.Name ex pe, .Name cx tp] [] pos) ρ W Q := fun σ I H ok xk R f => by
  obtain ⟨v, e, r⟩ := ok.at h0 (fun z => nomatch z)
  have r : v = .ref p.1 := r
  subst r
  exact ⟨_, pe_callB (call_isP hp Ce hz hf) hg hm boot_isinstance (pa_cons (pe_var hN hv hd hcd) (pa_cons (pe_glob (v := .ref C) hgC hC rfl hdC) pa_nil he2) he) (by decide) (by decide) he hpl,
    .ref p.1, e, .ref C, .ref C, b, rfl, fun u hu => hu, hk, f _ false _ ρ I H (Go.refl ok) Rv.mkBl q⟩
theorem em_isPT (i : Nat) {ex cx : Str} {T : String} (hp : p ∈ X.pn) (Ce : ExcC X.K D) (hz : Zc (.ref D) none p.2) (hf : ∃ vs, p.2.data = .fields vs) (hm : X.mg "isinstance" = none) (hC : X.mg cx = none) (hx : bootBuiltins cx = some (.type T)) (hk : PySem.W.kitOne X.K (.ref D) (.type T) = some b)
    (h0 : ρ[i]? = some (.rw (.ref p.1))) (q : Q false (.bool b) ρ) (hN : X.N[i]? = some ex := by rfl) (hv : Vis X.env.scope ex := by first | exact Or.inl rfl | exact Or.inr (Or.inl rfl) | exact Or.inr (Or.inr rfl))
    (hd : (ex == ("__debug__" : Str)) = false := by decide) (hcd : (ex == ("__classdict__" : Str)) = false := by decide) (hg : Gl X "isinstance" := by rfl) (hgC : Gl X cx := by rfl) (hn : cx ≠ "__name__" := by decide) (hdC : (cx == ("__debug__" : Str)) = false := by decide)
    (he : starEach [.Name ex pe, .Name cx tp] X.env = (false, eval (.Name ex pe) X.env) :: starEach [.Name cx tp] X.env := by rfl) (he2 : starEach [.Name cx tp] X.env = (false, eval (.Name cx tp) X.env) :: starEach [] X.env := by rfl) (hpl : (backTo pos (starEach [.Name cx tp] X.env)).any (·.1) = false := by rfl) :
    EM m X (.Call (.Name "isinstance" pf) [.Name ex pe, .Name cx tp] [] pos) ρ W Q := fun σ I H ok xk R f => by
  obtain ⟨v, e, r⟩ := ok.at h0 (fun z => nomatch z)
  have r : v = .ref p.1 := r
  subst r
  exact ⟨_, pe_callB (call_isP hp Ce hz hf) hg hm boot_isinstance (pa_cons (pe_var hN hv hd hcd) (pa_cons (pe_bltn (v := .ty T) hgC hC hx rfl hn hdC) pa_nil he2) he) (by decide) (by decide) he hpl,
    .ref p.1, e, .ty T, .type T, b, rfl, fun u hu => hu, hk, f _ false _ ρ I H (Go.refl ok) Rv.mkBl q⟩
end
/-! a def of the exception alone -/
def spE (K : PySem.W.Frag) (sp : Addr × Obj → (Bool → D → Prop) → Prop) : Addr × Obj → Sp := fun p vs H Q _ => ∃ I P, Sub I H ∧ vs = [.ref p.1] ∧ sp p P ∧ ∀ v o d I' H', Grow I H I' H' → RsOk K H I' H' v o d → P o d → Q v H'
def CalE (P : Program) (w : World) (K : PySem.W.Frag) (mg : Str → Option Value) (base : Heap) (x : Str) (k : Nat) (sp : Addr × Obj → (Bool → D → Prop) → Prop) : Prop :=
  ∃ f fd e, FnP P w K mg base (L2N.CX P w) k f fd [e] (spE K sp) ∧ mg x = some (.ref f) ∧ PySem.W.keepIn K (.ref f) = true ∧ Binds K fd [e] []
theorem em_callE {X : Cx} {m : Bool} {ρ : List Sl} {W : Wx} {pos pf pe : Pos} {Q : Bool → D → List Sl → Prop} {p : Addr × Obj} {k : Nat} {sp : Addr × Obj → (Bool → D → Prop) → Prop} (i : Nat) {x ex : Str} (F : CalE X.prog X.w X.K X.mg X.base x k sp) (hr : RoomH k X.A) (hot : Hot1 X.A p) (hp : p ∈ X.pn)
    (h0 : ρ[i]? = some (.rw (.ref p.1))) (q : sp p fun o d => Q o d ρ) (hN : X.N[i]? = some ex := by rfl) (hv : Vis X.env.scope ex := by first | exact Or.inl rfl | exact Or.inr (Or.inl rfl) | exact Or.inr (Or.inr rfl))
    (hd : (ex == ("__debug__" : Str)) = false := by decide) (hcd : (ex == ("__classdict__" : Str)) = false := by decide) (hg : Gl X x := by rfl) (hdb : (x == ("__debug__" : Str)) = false := by decide)
    (he : starEach [.Name ex pe] X.env = (false, eval (.Name ex pe) X.env) :: starEach [] X.env := by rfl) (hpl : (backTo pos (starEach [] X.env)).any (·.1) = false := by rfl) :
    EM m X (.Call (.Name x pf) [.Name ex pe] [] pos) ρ W Q := fun σ I H ok xk R f => by
  obtain ⟨fa, fd, en, F, hm, hk, hb⟩ := F
  obtain ⟨v, e, r⟩ := ok.at h0 (fun z => nomatch z)
  have r : v = .ref p.1 := r
  subst r
  exact ⟨_, pe_callP F hr hot hp hg hm hk hb (E := fun _ _ _ _ => False) (fun σ => L2N.passAt (W := fun _ _ _ _ => False) (fun _ _ ⟨_, _, _, _, _, _, _, _, _, _, _, _, _, _, _, _, w⟩ => w.elim) σ) (pa_cons (pe_var hN hv hd hcd) pa_nil he) hdb he hpl,
    .ref p.1, e, I, _, ok.sub, rfl, q, fun v o d I' H' g r qq => f v o d ρ I' H' (Go.of ok g) r qq⟩
section
variable {P : Program} {w : World} {K : PySem.W.Frag} {mg : Str → Option Value} {base : Heap}
theorem fnE_ok {x qual : Str} {st : Stmt} {f : Addr} {fd : FuncData} {N : List Str} {en : Str} {k : Nat} {sp : Addr × Obj → (Bool → D → Prop) → Prop} (F : Fun K x qual st f fd) (hm : mg x = some (.ref f)) (hb : Binds K fd [en] []) (S : FnScope N [en] (defScope st))
    (hbody : ∀ (cdv : Value) (A : Around) (outer : List Env) (s : Shared) (H : Hp) (E : XK) (p : Addr × Obj), Hot1 (A.deeper (envOfC qual (defScope st) s.heap.objs.size f cdv)) p → RoomH k (A.deeper (envOfC qual (defScope st) s.heap.objs.size f cdv)) → ∀ Q, sp p Q →
      SD (cxH (L2N.CX P w) P w K mg base N qual (defScope st) f cdv A outer s H E p) (defBody st) (startS N.length [.rw (.ref p.1)]) W0 { nx := fun _ => Q false .none, rt := fun o d _ => Q o d }) : CalE P w K mg base x (k + 1) sp := by
  refine ⟨f, fd, en, ?_, hm, F.kp, hb⟩
  obtain ⟨oc, od, kV, doc, pm, an, cdv, ct, osl, rfl, lk, hcd⟩ := F.ex
  refine fnP_of lk hcd S (fun p vs H Q E ⟨_, _, _, e, _⟩ => by rw [e]; rfl) fun A outer s H vs Q E p hot hr ⟨I, P', sub, ev, h, hq⟩ => ?_
  subst ev
  have nft : ∀ i, ft (startS N.length [.rw (.ref p.1)]) i = [] := fun i => by
    cases q : ft (startS N.length [.rw (.ref p.1)]) i with
    | nil => rfl
    | cons a r =>
      have z : a ∈ ft [Sl.rw (.ref p.1)] i := startS_ft (n := N.length) (by rw [q]; exact List.mem_cons_self)
      unfold ft at z
      cases i with
      | zero => cases z
      | succ i => cases z
  have nmt : ∀ a, ¬ Mt (startS N.length [.rw (.ref p.1)]) a := fun a ⟨i, h⟩ => by rw [nft i] at h; cases h
  have ok0 : EnvOk K I H (L2.start N [.ref p.1]) (startS N.length [.rw (.ref p.1)]) := by
    refine ⟨?_, fun i t e => ?_, fun i => (by rw [nft i]; exact List.nodup_nil), fun i j a h1 _ => (by rw [nft i] at h1; cases h1), fun i a h => (by rw [nft i] at h; cases h), sub⟩
    · unfold L2.start startS
      simp
    · cases i with
      | zero =>
        have e1 : t = .rw (.ref p.1) := by
          have : (startS N.length [.rw (.ref p.1)])[0]? = some (.rw (.ref p.1)) := rfl
          rw [this] at e
          exact (Option.some.inj e).symm
        subst e1
        rfl
      | succ i =>
        rcases startS_at e with z | z
        · cases z
        · subst z
          trivial
  have fin : ∀ v o d σ' ρ' I' H', EnvOk K I' H' σ' ρ' → Step I H (Mt (startS N.length [.rw (.ref p.1)])) I' H' (Mt ρ') → RtOk K H (Mt (startS N.length [.rw (.ref p.1)])) I' H' v o d → P' o d → Q v H' := by
    intro v o d σ' ρ' I' H' ok' st' r q
    refine hq v o d I' H' (st'.grow nmt ok'.sub) ?_ q
    cases o with
    | false => exact r
    | true =>
      obtain ⟨a, xs, ds, h1, h2, h3, h4⟩ := r
      exact ⟨a, xs, ds, h1, h2, h3.elim id fun z => absurd z (nmt a), h4⟩
  obtain ⟨t, ht, q⟩ := hbody cdv A outer s H E p hot hr P' h (L2.start N [.ref p.1]) I H ok0 .zero { nx := fun _ H' => Q .non H', rt := Q }
    ⟨fun σ' ρ' I' H' ok' st' q => fin .non false .none σ' ρ' I' H' ok' st' Rv.mkNon q, fun v o d σ' ρ' I' H' ok' st' r q => fin v o d σ' ρ' I' H' ok' st' r q, fun _ _ _ _ _ _ q => q.elim, fun _ _ _ _ _ _ q => q.elim⟩
  exact ⟨t, ht, q⟩
end
end Tt

/-! list comprehensions over data while an exception is handled; text.split(text). -/
namespace Tt
open PySem PySem.Spec PyProof.Rows L2 L2H
theorem md_split {X : Cx} {x y : Str} {Q : Bool → D → Prop} (hy : (y.length == 0) = false) (hz : x.length + 2 ≤ sizeLine) (q : Q true (.list ((Txt.split x y).map .str))) : MD X "str.split" x [.str y] Q := fun I H vs s r R k => by
  obtain ⟨v, rfl, r'⟩ := kd_one r
  rw [r'.str]
  exact ⟨_, mt_split, x, y, rfl, rfl, hy, hz, fun p n => k.lst s (DqAll.mkStrs _) q n⟩
abbrev bkH (X : Cx) (p : Addr × Obj) (scope : Scope) (s : Shared) (H0 : Hp) (C : Addr) (cl : List (Str × Addr)) (fp : List Addr) : Cx := blkH X p s H0 scope (compEnvC scope cl C X.env) fp
def wEh (X : Cx) (p : Addr × Obj) (scope : Scope) (e : Expr) : TE := fun σ H Q => ∀ s H0 C cl fp, wE (bkH X p scope s H0 C cl fp) e σ H Q
theorem pe_wh {X : Cx} {p : Addr × Obj} {scope : Scope} {e : Expr} (s : Shared) (H0 : Hp) (C : Addr) (cl : List (Str × Addr)) (fp : List Addr) : PE (bkH X p scope s H0 C cl fp) e (wEh X p scope e) :=
  ⟨fun pins s1 σ H Q I h => by
    obtain ⟨t, ht, q⟩ := h s H0 C cl fp
    exact ht.run pins s1 σ H Q I q⟩
def wTsh (X : Cx) (p : Addr × Obj) (scope : Scope) (es : List Expr) : TT := fun σ H Q => ∀ s H0 C cl fp, wTs (bkH X p scope s H0 C cl fp) es σ H Q
theorem pts_wh {X : Cx} {p : Addr × Obj} {scope : Scope} {es : List Expr} (s : Shared) (H0 : Hp) (C : Addr) (cl : List (Str × Addr)) (fp : List Addr) : PTs (bkH X p scope s H0 C cl fp) es (wTsh X p scope es) :=
  ⟨fun pins s1 σ H Q I h => by
    obtain ⟨t, ht, q⟩ := h s H0 C cl fp
    exact ht.run pins s1 σ H Q I q⟩
def wIH (X : Cx) (tg iter : Expr) : TI := fun σ H R => ∃ t, PIH X tg iter t ∧ t σ H R
theorem pi_wH {X : Cx} {tg iter : Expr} : PIH X tg iter (wIH X tg iter) := ⟨fun pins s σ H R I ⟨_, h, q⟩ => h.run pins s σ H R I q⟩
def InH (X : Cx) (p : Addr × Obj) (scope : Scope) (f : Cx → Prop) : Prop := ∀ s H0 C cl fp, f (bkH X p scope s H0 C cl fp)
def IMH (m : Bool) (X : Cx) (tg iter : Expr) (ρ : List Sl) (W : Wx) (Q : List D → List Sl → Prop) : Prop :=
  ∀ σ I H, EnvOk X.K I H σ ρ → XOk X W H ρ → ∀ R : It → Hp → Prop, (∀ J its ρ' I' H', Go m X.K σ ρ I H ρ' I' H' → WalkD X.K J I' its → Q its ρ' → R J H') → wIH X tg iter σ H R
def TurnDH (m : Bool) (X : Cx) (p : Addr × Obj) (elt : Expr) (ifs : List Expr) (scope : Scope) (t : Tg) (vs : List Nat) (d : D) (ys : List D) (ρ2 : List Sl) (Pn : List D → List Sl → Prop) : Prop :=
  ∃ ρ3, Tg.put t d (wipeS ρ2 vs) = some ρ3 ∧ InH X p scope fun Y => SM m Y ifs ρ3 fun b ρ4 => (b = true → InH X p scope fun Z => EM m Z elt ρ4 W0 fun _ y ρ5 => nd y = true ∧ ys.length < sizeLine ∧ Pn (ys ++ [y]) (backS vs ρ2 ρ5)) ∧ (b = false → Pn ys (backS vs ρ2 ρ4))
def HLcH (m : Bool) (X : Cx) (p : Addr × Obj) (elt tg iter : Expr) (ifs : List Expr) (scope : Scope) (t : Tg) (vs : List Nat) (ρ : List Sl) (W : Wx) (Q : List D → List Sl → Prop) : Prop :=
  IMH m X tg iter ρ W fun its ρ1 => ∃ P : Nat → List D → List Sl → Prop, P 0 [] ρ1 ∧ (∀ i d ys ρ2, its[i]? = some d → P i ys ρ2 → TurnDH m X p elt ifs scope t vs d ys ρ2 (P (i + 1))) ∧ ∀ ys ρ2, P its.length ys ρ2 → Q ys ρ2
section
variable {X : Cx} {p : Addr × Obj} {m : Bool} {ρ : List Sl} {W : Wx} {a b elt tg iter : Expr} {ifs elts : List Expr} {kk : Nat} {tpos pz : Pos} {scope : Scope} {pos : Pos} {Q : Bool → D → List Sl → Prop}
theorem lc_dataH {t : Tg} {own : List (Str × Nat)} {QL : List D → List Sl → Prop} (ht : ∀ i ∈ Tg.slots t, i ∈ own.map (·.2)) (h : HLcH m X p elt tg iter ifs scope t (own.map (·.2)) ρ W QL) {σ : L2.St} {I H : Hp} (ok : EnvOk X.K I H σ ρ) (xk : XOk X W H ρ) {R : VK}
    (f : ∀ v ds ρ' I' H', Go m X.K σ ρ I H ρ' I' H' → RsOk X.K H I' H' v true (.list ds) → QL ds ρ' → R v H') : tLc (wIH X tg iter) (Tg.g X.K t) (wTsh X p scope ifs) (wEh X p scope elt) (own.map (·.2)) σ H R := by
  refine h σ I H ok xk _ fun J its ρ1 I1 H1 g1 w ⟨P, p0, ps, pd⟩ D nD => ?_
  have ok1 := g1.env ok
  have nI1 : I1 D = none := ok1.sub.nn nD
  refine lc_it w.w (fun i H' => ∃ ρ2 I2 ys acc, Go m X.K σ ρ1 I1 H1 ρ2 I2 H' ∧ I2 D = none ∧ H' D = some (.lst acc) ∧ DqAll I2 acc ys ∧ P i ys ρ2)
    ⟨ρ1, I1, [], [], (Go.refl ok1).dark ok1 nD nI1, nI1, upd_same, .nil, p0⟩ (fun i H' _ ⟨ρ2, I2, ys, acc, g, _⟩ => (g.env ok1).sub.same g.ii) (fun i x H' H'' hi ⟨ρ2, I2, ys, acc, g, nd2, hD, ha, pi⟩ y => ?_) fun H' ⟨ρ2, I2, ys, acc, g, nd2, hD, ha, pn⟩ => ?_
  · obtain ⟨d, hd, y⟩ := y
    have ok2 := g.env ok1
    obtain ⟨I3, g3, r3⟩ := y I2 g.ii ok2.sub
    obtain ⟨ρ3, e3, body⟩ := ps i d ys ρ2 hd pi
    have ok3 := ok2.grow g3
    obtain ⟨σ3, p3, q3⟩ := Tg.run t (EnvOk.wiped (vs := own.map (·.2)) ok3) r3 e3
    have gg := g.grow ok1 g3
    have hD3 : H'' D = some (.lst acc) := g3.hh D _ hD
    have nd3 : I3 D = none := g3.fr D _ hD nd2
    have nm : ¬ Mt ρ3 D := fun z => by
      obtain ⟨j, hj⟩ := p3.mt D z
      obtain ⟨o, e⟩ := ok1.there (g.mt D ⟨j, (ft_wipe hj).1⟩)
      rw [nD] at e
      cases e
    have pw := p3.wide ht
    refine q3 _ ⟨wipe_put p3 ht, fun s0 H0 C cl fp => ?_⟩
    refine sm_run (body s0 H0 C cl fp) p3.env fun b ρ4 I4 H4 g4 ⟨q1, q2⟩ => ?_
    have hD4 : H4 D = some (.lst acc) := g4.step.oth D _ hD3 nm
    have nd4 : I4 D = none := g4.step.fr D _ hD3 nd3 nm
    cases b with
    | false =>
      refine iteF ⟨backS (own.map (·.2)) ρ2 ρ4, I4, ys, acc, gg.trans (Go.back ok3 pw g4), nd4, hD4, DqAll.same (g3.ii.trans g4.ii) ha, q2 rfl⟩
    | true =>
      refine iteT fun s1 H1' C1 cl1 fp1 => ?_
      refine EM.run (q1 rfl s1 H1' C1 cl1 fp1) (g4.env p3.env) XOk.zero fun v o y ρ5 I5 H5 g5 r5 ⟨ny, ly, pp⟩ => ?_
      have g45 := g4.trans g5
      have nm4 : ¬ Mt ρ4 D := fun z => nm (g4.mt D z)
      have hD5 : H5 D = some (.lst acc) := g5.step.oth D _ hD4 nm4
      have nd5 : I5 D = none := g5.step.fr D _ hD4 nd4 nm4
      have ha5 := DqAll.same ((g3.ii.trans g4.ii).trans g5.ii) ha
      refine ⟨acc, hD5, by rw [ha5.len]; exact ly, backS (own.map (·.2)) ρ2 ρ5, I5, ys ++ [y], acc ++ [v], (gg.trans (Go.back ok3 pw g45)).dark ok1 nD nd5, nd5, upd_same, DqAll.app ha5 (.cons (r5.dp ny) .nil), pp⟩
  · exact f _ ys ρ2 I2 H' (g1.trans g) ⟨D, acc, ys, rfl, rfl, g1.nn D nD, nd2, hD, ha⟩ (pd ys ρ2 pn)
theorem em_lcH (t : Tg) (own : List (Str × Nat)) (hot : Hot1 X.A p) (hp : p ∈ X.pn) (hN : X.N.Nodup) (ok : BlkOk X.N X.env.scope scope own) (hg : InH X p scope fun Y => PG Y tg (Tg.g X.K t)) (ht : ∀ i ∈ Tg.slots t, i ∈ own.map (·.2))
    (h : HLcH m X p elt tg iter ifs scope t (own.map (·.2)) ρ W fun ys ρ' => Q true (.list ys) ρ') (hs : ∀ x, foldedSetIterable iter X.env x = pure x := by intro _; rfl) : EM m X (.ListComp elt [⟨tg, iter, ifs, 0⟩] scope pos) ρ W Q := fun σ I H okk xk R f =>
  ⟨_, pe_lcH hot hp hN pi_wH ok (fun s H C cl fp => hg s H C cl fp) pts_wh pe_wh hs, lc_dataH ht h okk xk fun v ds ρ' I' H' g r q => f v true _ ρ' I' H' g r q⟩
theorem im_zipH {Q : List D → List Sl → Prop} (hm : X.mg "zip" = none) (h : AM m X [a, b] ρ W fun vs ρ1 => ∃ ds es, vs = [.list ds, .list es] ∧ ds.length ≤ es.length ∧ Q (zipD ds es) ρ1) (hg : Gl X "zip" := by rfl)
    (hs : starEach [a, b] X.env = (false, eval a X.env) :: starEach [b] X.env := by rfl) (hpl : (backTo pos (starEach [b] X.env)).any (·.1) = false := by rfl) : IMH m X (.Tuple elts kk tpos) (.Call (.Name "zip" pz) [a, b] [] pos) ρ W Q := fun σ I H ok xk R f =>
  ⟨_, pi_zipH hg hm pa_w hs hpl, h σ I H ok xk _ fun vs ds ρ1 I1 H1 g r ⟨ds, es, e, le, q⟩ => by
    subst e
    cases r with
    | cons r1 r =>
      cases r with
      | cons r2 r =>
        cases r
        obtain ⟨a1, xs, rfl, ha, t⟩ := r1.lst
        obtain ⟨a2, ys, rfl, hb, t2⟩ := r2.lst
        refine ⟨a1, a2, xs, ys, rfl, SqL.of ((g.env ok).sub.lst ha), SqL.of ((g.env ok).sub.lst hb), f _ _ ρ1 I1 H1 g ⟨?_⟩ q⟩
        have lx := t.len
        have ly := t2.len
        have ln : (zipD ds es).length = min xs.length ys.length := by rw [zipD_len, lx, ly]
        rw [ln]
        have w := walk_zip (K := X.K) (a := a1) (b := a2) (xs := xs) (ys := ys) rfl
        refine ⟨fun i H hi s => w.goes i H hi ⟨SqL.of (s.lst ha), SqL.of (s.lst hb)⟩, fun H s => ⟨xs, SqL.of (s.lst ha), by omega⟩, fun i H v H' hi s y => ?_⟩
        obtain ⟨T, x, x2, rfl, nT, rfl, e1, e2⟩ := w.yields i H v H' hi ⟨SqL.of (s.lst ha), SqL.of (s.lst hb)⟩ y
        obtain ⟨d, hd, r⟩ := t.getV e1
        obtain ⟨d2, hd2, r2⟩ := t2.getV e2
        refine ⟨_, zipD_at hd hd2, fun I1' ii s1 => ?_⟩
        have g := Grow.new (o := .tup [x, x2]) s1 nT
        exact ⟨_, g, Rv.mkT upd_same (.cons (Dq.same (ii.trans g.ii) r) (.cons (Dq.same (ii.trans g.ii) r2) .nil))⟩⟩
theorem pg_tpH {es : List Expr} {k : Nat} {ts : List Tg} {pos : Pos} (hc : HotC X) (h : PGs X es (Tg.gs X.K ts)) (hn : (assignEach es X.env).length = ts.length := by rfl) (hst : (assignEach es X.env).findIdx? (·.1) = none := by rfl) : PG X (.Tuple es k pos) (Tg.g X.K (.tp ts)) := by
  unfold Tg.g
  exact pg_tupH hc h hn hst
theorem hot_bk {s : Shared} {H0 : Hp} {C : Addr} {cl : List (Str × Addr)} {fp : List Addr} (hot : Hot1 X.A p) : HotC (bkH X p scope s H0 C cl fp) := ⟨p, hot, List.mem_singleton.mpr rfl⟩
end
end Tt

/-! raise; try .. except .. as n. -/
namespace Tt
open PySem PySem.Spec PyProof.Rows L2 L2H
/-- a class of the program's that may be raised -/
structure ExcR (K : PySem.W.Frag) (mg : Str → Option Value) (x : Str) (C : Addr) : Prop where
  F : ∃ (B newId initId : String) (bm : List Value), ExcBaseFacts B newId initId bm ∧ PySem.W.excIn K C bm newId = true
  mg_ : mg x = some (.ref C)
  kp : PySem.W.keepIn K (.ref C) = true
  sub : PySem.W.subIn K (.ref C) (.type "BaseException") = some true
  ty : PySem.W.typeIn K (.ref C) = some (.type "type")
theorem takes_imp {X : Cx} {W W' : WX} (t : L2N.Takes X W) (h : ∀ c d (σ : L2.St) H, σ.length = X.N.length → W' c d σ H → W c d σ H) : L2N.Takes X W' := fun u s' ⟨a, B, sI, pins, σ, H, cls, d, e, I, nb, up, sky, na, os, ag, w⟩ =>
  t u s' ⟨a, B, sI, pins, σ, H, cls, d, e, I, nb, up, sky, na, os, ag, h _ _ _ _ I.len w⟩
theorem sub_same {I H H' : Hp} (s : Sub I H) (sm : Same H H') : Sub I H' := s.grow sm
section
variable {X : Cx} {ρ : List Sl} {W : Wx} {E : DE}
theorem s1_raise {x m : Str} {j : Nat} {C : Addr} {p p2 pos pos2 : Pos} (R : ExcR X.K X.mg x C) (hc : X.calm = true) (w : W (.ref C)) (hg : Gl X x := by rfl) (hdb : (x == ("__debug__" : Str)) = false := by decide) : S1 X (.Raise (some (.Call (.Name x p) [.Constant (.str m) j p2] [] pos)) none pos2) ρ W E := fun σ I H ok xk T k => by
  obtain ⟨H0, thr, s0, k0⟩ := xk.ex
  obtain ⟨B, newId, initId, bm, F, q⟩ := R.F
  exact ⟨_, L2N.ps_raise hc thr (L2N.pmk_own F q R.mg_ R.kp (raises_own R.sub R.ty) hg hdb), w, rfl, s0⟩
theorem s1_tryE (i : Nat) {x n : Str} {c : Value} {Wb : Wx} {body suite : List Stmt} {b₀ : Stmt} {np pos pos' : Pos} (hs : X.stack = X.env :: X.outer) (hf : X.env.frame = some X.env.locals) (hN : X.N.Nodup) (hi : X.N[i]? = some n) (hln : X.env.kindOf n = some .local) (hc : Names X x c) (nm : ∀ a, ¬ Mt ρ a)
    (hbody : ∀ pn xe, SD (X.tr pn xe) body ρ Wb E) (hex : ∀ cls, Wb cls → PySem.W.exmOne X.K cls c = some true)
    (hsu : ∀ a oe cls pn, Wb cls → L2N.Zn cls none oe → (∃ vs, oe.data = .fields vs) → SD (X.suite a ((a, oe) :: pn)) (b₀ :: suite) ((List.replicate X.N.length Sl.no).set i (.rw (.ref a))) W0 { nx := fun _ => False, rt := E.rt }) :
    S1 X (.Try body [.ExceptHandler (some (.Name x np)) (some n) (b₀ :: suite) pos'] [] [] pos) ρ W E := fun σ I H ok xk T k => by
  refine ⟨_, L2N.ps_try_as (Wout := fun _ _ _ _ => False) (tb := fun Wt D σ H => ∀ pn xe, L2N.Takes (X.tr pn xe) Wt → wS (X.tr pn xe) body D σ H) (ts := fun a cls d D σ H => ∀ oe pn, L2N.Zn cls d oe → (∃ vs, oe.data = .fields vs) → wS (X.suite a ((a, oe) :: pn)) (b₀ :: suite) D σ H) hs hf hN hi hln hc
    (fun _ _ ⟨_, _, _, _, _, _, _, _, _, _, _, _, _, _, _, _, w⟩ => w.elim) (fun Wt pn xe tk _ => ⟨fun pins s σ H D I h => ?_⟩) (fun a oe cls d pn hz hv => ⟨fun pins s σ H D I h => ?_⟩), ?_⟩
  · obtain ⟨t, ht, q⟩ := h pn xe tk
    exact ht.run pins s σ H D I q
  · obtain ⟨t, ht, q⟩ := h oe pn hz hv
    exact ht.run pins s σ H D I q
  · intro pn xe tk
    refine hbody pn xe σ I H ok ⟨H, takes_imp tk fun cls d σ' H' ln ⟨wc, e, sm⟩ => ?_, Same.refl H, fun a z => absurd z (nm a)⟩ T ⟨k.nx, k.rt, k.bk, k.ct⟩
    subst e
    refine ⟨true, hex cls wc, fun _ a ha oe pn2 hz hv => ?_, fun z => Bool.noConfusion z⟩
    have ln : σ'.length = X.N.length := ln
    have hil : i < X.N.length := (List.getElem?_eq_some_iff.mp hi).1
    have sl : ∀ j s, ((List.replicate X.N.length Sl.no).set i (.rw (.ref a)))[j]? = some s → (j = i ∧ s = .rw (.ref a)) ∨ s = .no := fun j s e => by
      by_cases ji : j = i
      · subst ji
        rw [List.getElem?_set_self (by rw [List.length_replicate]; exact hil)] at e
        exact .inl ⟨rfl, (Option.some.inj e).symm⟩
      · rw [List.getElem?_set_ne (fun z => ji z.symm), List.getElem?_replicate] at e
        split at e
        · exact .inr (Option.some.inj e).symm
        · cases e
    have nft : ∀ j, ft ((List.replicate X.N.length Sl.no).set i (.rw (.ref a))) j = [] := fun j => by
      unfold ft
      cases e : ((List.replicate X.N.length Sl.no).set i (.rw (.ref a)))[j]? with
      | none => rfl
      | some s =>
        rcases sl j s e with ⟨_, rfl⟩ | rfl <;> rfl
    have nmt : ∀ b, ¬ Mt ((List.replicate X.N.length Sl.no).set i (.rw (.ref a))) b := fun b ⟨j, h⟩ => by rw [nft j] at h; cases h
    have ok1 : EnvOk X.K I H' (σ'.set i (some (.ref a))) ((List.replicate X.N.length Sl.no).set i (.rw (.ref a))) := by
      refine ⟨by rw [List.length_set, List.length_set, List.length_replicate, ln], fun j s e => ?_, fun j => (by rw [nft j]; exact List.nodup_nil), fun j l b h1 _ => (by rw [nft j] at h1; cases h1), fun j b h => (by rw [nft j] at h; cases h), sub_same ok.sub sm⟩
      rcases sl j s e with ⟨rfl, rfl⟩ | rfl
      · rw [List.getElem?_set_self (by rw [ln]; exact hil)]
        rfl
      · trivial
    refine hsu a oe cls pn2 wc hz hv (σ'.set i (some (.ref a))) I H' ok1 .zero _ ⟨fun _ _ _ _ _ _ q => q.elim, fun v o d σ2 ρ2 I2 H2 ok2 st r q => ?_, fun _ _ _ _ _ _ q => q.elim, fun _ _ _ _ _ _ q => q.elim⟩
    have gr := st.grow nmt ok2.sub
    refine k.rt v o d σ2 ρ2 I2 H2 ok2 ⟨st.ii, fun b ob e n => st.oth b ob (sm b ob e) (nmt b), fun b ob e z n => st.fr b ob (sm b ob e) z (nmt b), fun b m => ?_, fun b ob e => st.al b ob (sm b ob e)⟩ ?_ q
    · rcases st.mm b m with z | z
      · exact absurd z (nmt b)
      · refine .inr ?_
        cases e : H b with
        | none => rfl
        | some ob => rw [sm b ob e] at z; cases z
    · cases o with
      | false => exact r
      | true =>
        obtain ⟨b, xs, ds, h1, h2, h3, h4⟩ := r
        refine ⟨b, xs, ds, h1, h2, .inl ?_, h4⟩
        have z := h3.elim id fun z => absurd z (nmt b)
        cases e : H b with
        | none => rfl
        | some ob => rw [sm b ob e] at z; cases z
end
end Tt

/-! xs.insert(i, y); xs[a:c] = ys; xs[::-1] of lists and tuples. -/
namespace Tt
open PySem PySem.Spec PyProof.Rows L2
section
variable {X : Cx} {m : Bool} {ρ : List Sl} {W : Wx} {Q : Bool → D → List Sl → Prop} {e e1 e2 a b : Expr} {E : DE}
/-- xs.insert(k, y) -/
theorem em_insert (i : Nat) {x : Str} {q : Addr} {ds : List D} {p' apos cpos : Pos} (h0 : ρ[i]? = some (.mo q (.lst ds)))
    (h : EM false X e1 ρ W fun _ kk ρ1 => ∃ k : Nat, kk = .int (k : Nat) ∧ k < 1000000 ∧ EM false X e2 ρ1 W fun _ y ρ2 => nd y = true ∧ ∃ ds', ρ2[i]? = some (.mo q (.lst ds')) ∧ ds'.length < sizeLine ∧ Q false .none (ρ2.set i (.mo q (.lst (ds'.take k ++ [y] ++ ds'.drop k)))))
    (hN : X.N[i]? = some x := by rfl) (hv : Vis X.env.scope x := by first | exact Or.inl rfl | exact Or.inr (Or.inl rfl) | exact Or.inr (Or.inr rfl))
    (hd : (x == ("__debug__" : Str)) = false := by decide) (hcd : (x == ("__classdict__" : Str)) = false := by decide)
    (hbase : attributeBase (.Name x p') "insert" X.env (eval (.Name x p') X.env) = eval (.Name x p') X.env := by rfl)
    (hfew : ((backTo cpos (starEach (e1 :: [e2]) X.env)).all (fun x => !x.1) && (backToKw cpos (keywordEach [] X.env)).all (fun x => x.1.isSome)
      && decide ((e1 :: ([e2] : List Expr)).length + ([] : List Keyword).length + (if ([] : List Keyword).isEmpty then 0 else 1) < 30)) = true := by rfl)
    (hline : (apos.endLine == cpos.line) = true := by rfl) (hs : starEach (e1 :: [e2]) X.env = (false, eval e1 X.env) :: starEach [e2] X.env := by rfl) (hs2 : starEach (e2 :: []) X.env = (false, eval e2 X.env) :: starEach [] X.env := by rfl) (hplain : (backTo cpos (starEach [e2] X.env)).any (·.1) = false := by rfl) :
    EM false X (.Call (.Attribute (.Name x p') "insert" apos) [e1, e2] [] cpos) ρ W Q := fun σ I H ok xk R f => by
  obtain ⟨xs, hσ, hH, _⟩ := own_at ok h0
  refine ⟨_, pe_bm PySem.F.plainAttrs_list PySem.F.slot_list_insert PySem.F.type_list_insert mt_insert (pe_var hN hv hd hcd) (pa_cons pe_w (pa_cons pe_w pa_nil hs2) hs) hbase hfew hline hs hplain, _, hσ, tyL hH, ?_⟩
  refine EM.run h ok xk fun v1 _ kk ρ1 I1 H1 g1 r1 ⟨k, ek, kb, h1⟩ => ?_
  subst ek
  have ok1 := g1.env ok
  refine EM.run h1 ok1 (xk.step g1.step) fun v _ y ρ2 I2 H2 g2 r2 ⟨ny, ds', h2, hl, q2⟩ => ?_
  have ok2 := g2.env ok1
  obtain ⟨xs', _, hq, t⟩ := own_at ok2 h2
  have g := ok2.mut (mo' := .lst (ds'.take k ++ [y] ++ ds'.drop k)) h2 ⟨_, rfl, DqAll.app (DqAll.app (t.take k) (.cons (r2.dp ny) .nil)) (t.drop k)⟩
  rw [r1.int]
  exact ⟨q, xs', (k : Int), v, rfl, rfl, hq, by rw [t.len]; exact hl, by omega, by omega, f _ false _ _ _ _ ((g1.trans g2).trans g) Rv.mkNon q2⟩
end
end Tt
namespace L2
open PySem PySem.Spec PyProof.Rows PyProof HT
section
variable {prog : Program} {w : World} {A : Around} {E : Value → Shared → Prop} {s : Shared}
theorem bounds_runC {a c n : Nat} (hac : a ≤ c) (ha : a ≤ n) : sliceBounds (some (a : Int)) (some (c : Int)) none n = ((a : Int), ((min c n : Nat) : Int), 1) := by
  have h1 : ¬ ((a : Int) < 0) := by omega
  have h2 : ¬ ((c : Int) < 0) := by omega
  simp only [sliceBounds, Option.getD_none, h1, h2, if_false, show (1 : Int) > 0 by decide, if_true]
  refine Prod.ext ?_ (Prod.ext ?_ rfl) <;> simp only <;> omega
set_option maxRecDepth 100000 in
/-- list.__setitem__ with a slice whose end may lie behind the list's end -/
theorem setItem_sliceC {l b sl : Addr} {items new : Array Value} {n n2 : Nat} {vl vu : Value} {a c : Nat} {Q : Unit → Shared → Prop} (e : s.heap.get? l = some { cls := .type "list", data := .seq items n }) (e2 : s.heap.get? b = some { cls := .type "list", data := .seq new n2 }) (hne : l ≠ b) (hs : s.heap.IsSliceOf sl vl vu .none)
    (pl : IsPart vl (some (a : Int))) (pu : IsPart vu (some (c : Int))) (hac : a ≤ c) (ha : a ≤ items.size) (hsz : items.size + new.size ≤ sizeLine) (h : Q () { s with heap := s.heap.update l (Obj.mapSeq fun xs => xs.extract 0 a ++ new ++ xs.extract (min c items.size) xs.size) }) : wpAny (model prog w) A (setItem (.ref l) (.ref sl) (.ref b)) Q E s := by
  have hl : s.heap.IsList l items := PySem.IsL.isList e
  have hb : s.heap.IsList b new := PySem.IsL.isList e2
  obtain ⟨os, hos, hcs, hds⟩ := id hs
  have hTs : s.TypeIs (.ref sl) "slice" := ⟨os, hos, hcs⟩
  have hsame : Builtin.List.listSameRef (.ref l) (.ref b) = false := by unfold Builtin.List.listSameRef; exact beq_eq_false_iff_ne.mpr hne
  have hmax : (max (a : Int) ((min c items.size : Nat) : Int)).toNat = min c items.size := by omega
  have hz' : ((fun xs : Array Value => xs.extract 0 a ++ new ++ xs.extract (min c items.size) xs.size) items).size ≤ sizeLine + 1 := by simp only [Array.size_append, Array.size_extract]; omega
  unfold setItem
  (try with_reducible refine wpAny_holding ?_)
  (first | refine wpAny_bind (wpAny_pure ?_) | skip)
  refine wpAny_bind (wpAny_sequenceKey hl.typeIs (by decide) (wpAny_bind (wpAny_callSpecial?_slot (name := Str.ofString "__setitem__") hl.typeIs slot_list_setitem (wpAny_call_entry slot_list_setitem hl.typeIs entry_list_setitem ?_ (args_list_setitem _ _ _)))))
  show wpAny _ _ (Builtin.List.listSubscript? (.ref sl) >>= _) _ _ s
  refine wpAny_bind ?_
  unfold Builtin.List.listSubscript?
  refine wpAny_bind (wpAny_specialOf hTs slice_no_index ?_)
  simp only [Option.isNone_none, if_true]
  refine wpAny_pure ?_
  show wpAny _ _ (typeOf (.ref sl) >>= _) _ _ s
  refine wpAny_bind (wpAny_typeOf hTs ?_)
  rw [if_neg (by decide), listSliceParts_eq]
  refine wpAny_bind (wpAny_bind (wpAny_field hos hds (x := .none) rfl (wpAny_bind (wpAny_listPart .none ?_))))
  rw [if_neg (show ¬ ((rawPart none == rawInt 0) = true) from Bool.false_ne_true)]
  refine wpAny_bind (wpAny_field hos hds (x := vl) rfl (wpAny_bind (wpAny_listPart pl (wpAny_bind (wpAny_field hos hds (x := vu) rfl (wpAny_bind (wpAny_listPart pu (wpAny_pure ?_)))))))) 
  (first
    | simp only [hsame, Bool.false_eq_true, if_false]
    | refine PySem.W.KFB.if_not hsame ?_
    | (dsimp only; rw [if_neg (by rw [hsame]; exact Bool.false_ne_true)]))
  refine wpAny_bind (m := Builtin.List.listAllItems (.ref b) "must assign iterable to extended slice") ?_
  unfold Builtin.List.listAllItems
  refine wpAny_bind (wpAny_typeOf hb.typeIs ?_)
  (first
    | refine PySem.W.KFB.if_so (by decide) ?_
    | rw [if_pos (by decide)]
    | simp only [beq_self_eq_true, Bool.true_or, if_true])
  unfold Builtin.List.listItems
  refine wpAny_bind (wpAny_seqItems e2 rfl (wpAny_pure (wpAny_bind (wpAny_bind (wpAny_seqItems e rfl (wpAny_pure ?_))))))
  refine wpAny_bind (wpAny_of_eq ((sliceIndices_raw (some (a : Int)) (some (c : Int)) none items.size (by simp)).trans (congrArg (pure : Int × Int × Int → Sem (Int × Int × Int)) (bounds_runC hac ha))) ?_)
  show wpAny _ _ (if ((1 : Int) == 1) = true then _ else _) _ _ s
  rw [if_pos (by decide)]
  refine wpAny_bind (wpAny_rule ?_)
  (first
    | simp only [notLongL hsz, Bool.false_eq_true, if_false]
    | refine PySem.W.KFB.if_not (notLongL hsz) ?_)
  (first | refine wpAny_bind (wpAny_pure ?_) | skip)
  show wpAny _ _ (updateSeq l (fun xs => xs.extract 0 ((a : Int)).toNat ++ new ++ xs.extract (max (a : Int) ((min c items.size : Nat) : Int)).toNat xs.size) >>= _) _ _ s
  rw [hmax, Int.toNat_natCast]
  refine wpAny_bind (wpAny_updateSeq (hz := Nat.le_trans (Nat.le_add_right _ _) hsz) (_hz' := hz') e rfl (wpAny_bind (wpAny_letGo ?_)))
  (first
    | exact wpAny_bind (wpAny_pure (wpAny_pure ⟨.none, rfl, wpAny_pure h⟩))
    | exact wpAny_pure ⟨.none, rfl, wpAny_pure h⟩)
end
section
variable {X : Cx}
theorem set_sliceC {pins : List (Addr × Obj)} {s : Shared} {σ : St} {H : Hp} {l b sl : Addr} {xs ys : List V} {a c : Int} {vl vu : Value} {Q : Unit → Shared → Prop} (I : Inv X pins σ H s) (hH : H l = some (.lst xs)) (hB : H b = some (.lst ys)) (hne : l ≠ b) (hs : s.heap.IsSliceOf sl vl vu .none) (pl : IsPart vl (some a)) (pu : IsPart vu (some c)) (h0 : 0 ≤ a) (hac : a ≤ c) (ha : a ≤ xs.length)
    (hz : xs.length + ys.length ≤ sizeLine) (h : ∀ s', Inv X pins σ (upd H l (.lst (xs.take a.toNat ++ ys ++ xs.drop (min c.toNat xs.length)))) s' → Q () s') : wpAny (model X.prog X.w) X.A (setItem (.ref l) (.ref sl) (.ref b)) Q X.xe s := by
  obtain ⟨z, its, n, r, hl, e⟩ := I.lstM hH
  obtain ⟨z2, its2, n2, r2, hl2, e2⟩ := I.lstM hB
  obtain ⟨a', rfl⟩ := Int.eq_ofNat_of_zero_le h0
  obtain ⟨c', rfl⟩ := Int.eq_ofNat_of_zero_le (Int.le_trans h0 hac)
  simp only [Int.toNat_natCast] at h
  have hl' := r.length
  have hs1 : its.toArray.size = xs.length := by rw [List.size_toArray]; omega
  refine setItem_sliceC (a := a') (c := c') e e2 hne hs pl pu (by omega) (by omega) (by rw [List.size_toArray, List.size_toArray]; omega) (h _ ?_)
  rw [hs1]
  refine I.lset (its' := its.take a' ++ its2 ++ its.drop (min c' xs.length)) (t' := s.toks) hH e ?_ (Vals.append (Vals.append (r.take _) r2) (r.drop _)) ?_
  · exact splice_eq its its2 a' (min c' xs.length)
  · rw [List.length_append, List.length_append, List.length_take, List.length_drop]
    omega
/-- o[a:c] = .. -/
def gSlS (to ta tb : TE) : TG := fun v σ H Q => to σ H fun o H1 => tPart ta σ H1 fun oi H2 => tPart tb σ H2 fun oc H3 => ∃ l bb xs ys a c, o = .ref l ∧ v = .ref bb ∧ oi = some a ∧ oc = some c ∧ H3 l = some (.lst xs) ∧ H3 bb = some (.lst ys) ∧ l ≠ bb ∧ 0 ≤ a ∧ a ≤ c ∧ a ≤ (xs.length : Int) ∧ xs.length + ys.length ≤ sizeLine ∧
  Q σ (upd H3 l (.lst (xs.take a.toNat ++ ys ++ xs.drop (min c.toNat xs.length))))
theorem pg_subSl {o a b : Expr} {to ta tb : TE} {p1 pos : Pos} (ho : PE X o to) (ha : PE X a ta) (hb : PE X b tb)
    (hg : ∀ v, assign (.Subscript o (.Slice (some a) (some b) none p1) pos) X.env v = (do
      let ov ← holding [v] (eval o X.env)
      let iv ← holding [v, ov] (eval (.Slice (some a) (some b) none p1) X.env)
      standAt pos
      holding [v, ov, iv] (setItem ov iv v)
      release [iv, v, ov] []) := by intro _; rfl) : PG X (.Subscript o (.Slice (some a) (some b) none p1) pos) (gSlS to ta tb) := by
  refine ⟨fun pins s σ H v u Q I r h => ?_⟩
  rw [hg]
  refine wpAny_bind (wpAny_holding (thn (ho.run pins s σ H _ I h) fun ov s1 ⟨x, H1, I1, r1, q1⟩ => ?_))
  refine wpAny_bind (wpAny_holding (wpAny_Slice (thn ((po_some ha).run pins s1 σ H1 _ I1 q1) fun vl s2 ⟨oi, H2, I2, pl, q2⟩ => ?_)))
  refine thn ((po_some hb).run pins s2 σ H2 _ I2 q2) fun vu s3 ⟨oc, H3, I3, pu, q3⟩ => ?_
  refine thn (po_none.run pins s3 σ H3 (fun o H4 => o = none ∧ H4 = H3) I3 ⟨rfl, rfl⟩) fun vs s4 ⟨o4, H4, I4, ps, eo, e4⟩ => ?_
  subst eo e4
  obtain ⟨l, bb, xs, ys, a1, c1, rfl, rfl, rfl, rfl, hl, hbb, ne, h0, hac, hal, hz, q⟩ := q3
  cases r1
  cases r
  cases ps
  have I5 : Inv X pins σ H4 { s4 with heap := s4.heap.push { cls := .type "slice", data := .fields #[vl, vu, .none] } } := I4.kept (t' := s4.toks) fun b ob q => Heap.get?_push_of_some _ q
  refine wpAny_bind (wpAny_standAt (wpAny_bind (wpAny_holding (set_sliceC I5 hl hbb ne (Heap.IsSliceOf.new _ vl vu .none) pl pu h0 hac hal hz fun s6 I6 => ?_))))
  exact wpAny_release ⟨σ, _, I6, q⟩
end
end L2
namespace Tt
open PySem PySem.Spec PyProof.Rows L2
section
variable {X : Cx} {ρ : List Sl} {W : Wx} {e a b : Expr} {E : DE} {pos : Pos}
/-- xs[a:c] = a list -/
theorem s1_setSlice (i : Nat) {x : Str} {q : Addr} {ds : List D} {p' p1 p2 : Pos} (h0 : ρ[i]? = some (.mo q (.lst ds)))
    (h : EM false X e ρ W fun _ y ρ2 => ∃ es ds2, y = .list es ∧ ρ2[i]? = some (.mo q (.lst ds2)) ∧ EM false X a ρ2 W fun _ ka ρ3 => ∃ k : Nat, ka = .int (k : Nat) ∧ EM false X b ρ3 W fun _ kb ρ4 => ∃ (c : Nat) (ds' : List D), kb = .int (c : Nat) ∧ ρ4[i]? = some (.mo q (.lst ds')) ∧ k ≤ c ∧ k ≤ ds'.length ∧ ds'.length + es.length ≤ sizeLine ∧ E.nx (ρ4.set i (.mo q (.lst (ds'.take k ++ es ++ ds'.drop (min c ds'.length))))))
    (hN : X.N[i]? = some x := by rfl) (hv : Vis X.env.scope x := by first | exact Or.inl rfl | exact Or.inr (Or.inl rfl) | exact Or.inr (Or.inr rfl))
    (hd : (x == ("__debug__" : Str)) = false := by decide) (hcd : (x == ("__classdict__" : Str)) = false := by decide)
    (ha : ∀ v, assign (.Subscript (.Name x p') (.Slice (some a) (some b) none p1) p2) X.env v = (do
      let ov ← holding [v] (eval (.Name x p') X.env)
      let iv ← holding [v, ov] (eval (.Slice (some a) (some b) none p1) X.env)
      standAt p2
      holding [v, ov, iv] (setItem ov iv v)
      release [iv, v, ov] []) := by intro _; rfl)
    (hs : swapsWithSole [.Subscript (.Name x p') (.Slice (some a) (some b) none p1) p2] e pos.line X.env = pure false := by rfl) (hw : swappedStores [.Subscript (.Name x p') (.Slice (some a) (some b) none p1) p2] e X.env = pure none := by rfl)
    (h1 : List.map (fun x => x.snd) (assignEach [.Subscript (.Name x p') (.Slice (some a) (some b) none p1) p2] X.env) = [assign (.Subscript (.Name x p') (.Slice (some a) (some b) none p1) p2) X.env] := by rfl) :
    S1 X (.Assign [.Subscript (.Name x p') (.Slice (some a) (some b) none p1) p2] e pos) ρ W E := fun σ I H ok xk T k =>
  ⟨_, ps_asg pe_w (pg_subSl (pe_var hN hv hd hcd) pe_w pe_w ha) hs hw h1, EM.run h ok xk fun v _ y ρ2 I2 H2 g2 r2 ⟨es, ds2, ey, h2, q2⟩ => by
    subst ey
    have ok2 := g2.env ok
    obtain ⟨xs2, hσ, hH2, _⟩ := own_at ok2 h2
    obtain ⟨bb, zs, rfl, hb, t'⟩ := r2.lst
    refine ⟨_, hσ, EM.run q2 ok2 (xk.step g2.step) fun u _ kk ρ3 I3 H3 g3 r3 ⟨j, ek, q3⟩ => ?_⟩
    subst ek
    have ok3 := g3.env ok2
    rw [r3.int]
    refine ⟨(j : Int), rfl, EM.run q3 ok3 ((xk.step g2.step).step g3.step) fun u4 _ kk4 ρ4 I4 H4 g4 r4 ⟨c, ds', ek4, h4, hjc, hjl, hz, q4⟩ => ?_⟩
    subst ek4
    have ok4 := g4.env ok3
    rw [r4.int]
    obtain ⟨xs4, _, hH4, t4⟩ := own_at ok4 h4
    have hb4 := g4.ii _ _ (g3.ii _ _ hb)
    have tz := DqAll.same g4.ii (DqAll.same g3.ii t')
    have ne : q ≠ bb := fun z => by
      have o := ok4.out i q (by unfold ft; rw [h4]; exact List.mem_cons_self)
      rw [z, hb4] at o
      cases o
    have g := ok4.mut (mo' := .lst (ds'.take j ++ es ++ ds'.drop (min c ds'.length))) h4 ⟨_, rfl, DqAll.app (DqAll.app (t4.take j) tz) (t4.drop _)⟩
    have gg := ((g2.trans g3).trans g4).trans g
    refine ⟨(c : Int), rfl, q, bb, xs4, zs, (j : Int), (c : Int), rfl, rfl, rfl, rfl, hH4, ok4.sub.lst hb4, ne, by omega, by omega, by rw [t4.len]; omega, by rw [t4.len, t'.len]; exact hz, ?_⟩
    rw [Int.toNat_natCast, Int.toNat_natCast, t4.len]
    exact k.nx _ _ _ _ (gg.env ok) gg.step q4⟩
end
end Tt

/-! xs[::-1] of lists and tuples. -/
namespace L2
open PySem PySem.Spec PyProof.Rows PyProof HT
theorem adjust_rev (n : Nat) : Builtin.Slice.sliceAdjust none none (-1) (n : Int) = ((n : Int) - 1, -1) := rfl
theorem places_rev (n : Nat) : Builtin.Slice.slicePlaces ((n : Int) - 1) (-1) (-1) = n := by
  unfold Builtin.Slice.slicePlaces
  rw [if_neg (by decide)]
  by_cases h : (n : Int) - 1 > -1
  · rw [if_pos h]
    have : ((n : Int) - 1 - -1 - 1) / (- -1) + 1 = n := by
      rw [show (- -1 : Int) = 1 from rfl, Int.ediv_one]
      omega
    rw [this]
    exact Int.toNat_natCast n
  · rw [if_neg h]
    omega
theorem pick_rev (its : List Value) : ((List.range its.length).filterMap fun (k : Nat) => its.toArray[((its.length : Int) - 1 + (k : Int) * -1).toNat]?) = its.reverse := by
  have e : ∀ n, n ≤ its.length → ((List.range n).filterMap fun (k : Nat) => its.toArray[((its.length : Int) - 1 + (k : Int) * -1).toNat]?) = its.reverse.take n := by
    intro n
    induction n with
    | zero => intro _; simp
    | succ n ih =>
      intro h
      rw [List.range_succ, List.filterMap_append, ih (by omega), List.take_add_one]
      congr 1
      have hi : ((its.length : Int) - 1 + (n : Int) * -1).toNat = its.length - 1 - n := by omega
      have h2 : its.reverse[n]? = its[its.length - 1 - n]? := by rw [List.getElem?_reverse (by omega)]
      rw [List.filterMap_cons, hi, h2, List.getElem?_toArray, List.getElem?_eq_getElem (by omega : its.length - 1 - n < its.length)]
      rfl
  have h := e its.length (Nat.le_refl _)
  rw [h]
  exact List.take_of_length_le (by simp)
section
variable {prog : Program} {w : World} {A : Around} {E : Value → Shared → Prop} {s : Shared}
theorem sliceApplied_rev {sl : Addr} {vs : Value} {n : Nat} {Q : Int × Int × Nat → Shared → Prop} (hs : s.heap.IsSliceOf sl .none .none vs) (ps : IsPart vs (some (-1))) (h : Q ((n : Int) - 1, -1, n) s) : wpAny (model prog w) A (Builtin.Slice.sliceApplied (.ref sl) (pure (n : Int))) Q E s := by
  obtain ⟨os, hos, hcs, hds⟩ := id hs
  unfold Builtin.Slice.sliceApplied Builtin.Slice.sliceFields
  refine wpAny_bind (wpAny_bind (wpAny_field hos hds (x := .none) rfl (wpAny_bind (wpAny_field hos hds (x := .none) rfl (wpAny_bind (wpAny_field hos hds (x := vs) rfl (wpAny_pure ?_)))))))
  refine wpAny_bind (slicePart_ ps ?_)
  show wpAny _ _ (if ((-1 : Int) == 0) = true then _ else _) _ _ s
  rw [if_neg (by decide)]
  refine wpAny_bind (slicePart_none (wpAny_bind (slicePart_none (wpAny_bind (wpAny_pure ?_)))))
  show wpAny _ _ (match Builtin.Slice.sliceAdjust none none (-1) (n : Int) with | (lo, hi) => pure (lo, (-1 : Int), Builtin.Slice.slicePlaces lo hi (-1))) _ _ s
  rw [adjust_rev]
  show wpAny _ _ (pure ((n : Int) - 1, (-1 : Int), Builtin.Slice.slicePlaces ((n : Int) - 1) (-1) (-1))) _ _ s
  rw [places_rev]
  exact wpAny_pure h
theorem getItem_tuple_rev {t sl : Addr} {its : List Value} {vs : Value} {Q : Value → Shared → Prop} (ht : IsTup s.heap t its.toArray) (hs : s.heap.IsSliceOf sl .none .none vs) (ps : IsPart vs (some (-1)))
    (h : Q (.ref s.heap.objs.size) { s with heap := s.heap.push { cls := .type "tuple", data := .seq its.reverse.toArray } }) (hsz : its.length ≤ sizeLine) : wpAny (model prog w) A (getItem (.ref t) (.ref sl)) Q E s := by
  have htake : sizeOk (.seq its.reverse.toArray) := by
    show its.reverse.toArray.size ≤ sizeLine
    rw [List.size_toArray, List.length_reverse]
    exact hsz
  obtain ⟨os, hos, hcs, hds⟩ := id hs
  have hTs : s.TypeIs (.ref sl) "slice" := ⟨os, hos, hcs⟩
  unfold getItem
  (try with_reducible refine wpAny_holding ?_)
  (first | refine wpAny_bind (wpAny_pure ?_) | skip)
  refine wpAny_bind (wpAny_sequenceKey ht.typeIs (by decide) (wpAny_bind (wpAny_callSpecial?_slot (name := Str.ofString "__getitem__") ht.typeIs PyProof.Rows.slot_tuple_getitem (wpAny_call_entry PyProof.Rows.slot_tuple_getitem ht.typeIs entry_tuple_getitem ?_ (args_tuple_getitem _ _)))))
  show wpAny _ _ (Builtin.Tuple.tupleItemsOf (.ref t) >>= _) _ _ s
  refine wpAny_bind (tupleItemsOf_ ht (wpAny_bind (wpAny_typeOf hTs ?_)))
  rw [if_pos (by decide)]
  refine wpAny_bind (sliceApplied_rev hs ps ?_)
  have hno : ¬ (((((its.toArray.size : Nat) : Int) - 1) == 0 && (-1 : Int) == 1 && its.toArray.size == its.toArray.size) = true) := by
    rw [Bool.and_eq_true, Bool.and_eq_true]
    intro q
    exact absurd q.1.2 (by decide)
  show wpAny _ _ (if ((((its.toArray.size : Nat) : Int) - 1) == 0 && (-1 : Int) == 1 && its.toArray.size == its.toArray.size) = true then _ else _) _ _ s
  rw [if_neg hno]
  have e := pick_rev its
  rw [List.size_toArray, e]
  first
    | exact wpAny_bind (m := Builtin.Tuple.tupleExact _) (wpAny_newObj_type (wpAny_pure ⟨_, rfl, wpAny_pure h⟩) htake)
    | exact wpAny_bind (m := Builtin.Tuple.tupleExact _) (wpAny_newObj_type (wpAny_bind (wpAny_pure (wpAny_pure ⟨_, rfl, wpAny_pure h⟩))) htake)
    | exact wpAny_bind (wpAny_bind (m := Builtin.Tuple.tupleExact _) (wpAny_newObj_type (wpAny_pure (wpAny_pure ⟨_, rfl, wpAny_pure h⟩)) htake))
    | exact wpAny_bind (wpAny_bind (m := Builtin.Tuple.tupleExact _) (wpAny_newObj_type (wpAny_pure ⟨_, rfl, wpAny_pure h⟩) htake))
end
section
variable {X : Cx}
def tRevT (K : PySem.W.Frag) (te : TE) : TE := fun σ H Q => te σ H fun x H1 => ∃ a xs, x = .ref a ∧ SqT K H1 a xs ∧ ∀ p, H1 p = none → Q (.ref p) (upd H1 p (.tup xs.reverse))
theorem pe_revT {e : Expr} {te : TE} {k : Nat} {p1 p2 p3 pos : Pos} (he : PE X e te) : PE X (.Subscript e (.Slice none none (some (.UnaryOp .USub (.Constant (.int 1) k p1) p2)) p3) pos) (tRevT X.K te) := by
  refine ⟨fun pins s σ H Q I h => Subscript_ (thn (he.run pins s σ H _ I h) fun v s1 ⟨x, H1, I1, r1, q1⟩ => ?_)⟩
  obtain ⟨a, xs, ex, hx, q⟩ := q1
  subst ex
  cases r1
  have hst : PO X (some (.UnaryOp .USub (.Constant (.int 1) k p1) p2)) (tPart (tUn (rU fun i => .int (-i)) (tC (.int 1)))) := po_some (pe_un un_neg pe_int)
  refine wpAny_Slice (thn (po_none.run pins s1 σ H1 (fun o H2 => o = none ∧ H2 = H1) I1 ⟨rfl, rfl⟩) fun vl s2 ⟨l, H2, I2, pl, el, e2⟩ => ?_)
  subst el e2
  refine thn (po_none.run pins s2 σ H2 (fun o H3 => o = none ∧ H3 = H2) I2 ⟨rfl, rfl⟩) fun vu s3 ⟨u, H3, I3, pu, eu, e3⟩ => ?_
  subst eu e3
  refine thn (hst.run pins s3 σ H3 (fun o H4 => o = some (-1) ∧ H4 = H3) I3 ⟨1, rfl, -1, rfl, rfl, rfl⟩) fun vs s4 ⟨o, H4, I4, ps, eo, e4⟩ => ?_
  subst eo e4
  have I5 : Inv X pins σ H4 { s4 with heap := s4.heap.push { cls := .type "slice", data := .fields #[vl, vu, vs] } } := I4.kept (t' := s4.toks) fun b ob q => Heap.get?_push_of_some _ q
  cases pl
  cases pu
  obtain ⟨its, r, ht, hz⟩ := I5.tuple hx
  have hlen := r.length
  show wpAny (model X.prog X.w) X.A (subscriptTail e (.Slice none none (some (.UnaryOp .USub (.Constant (.int 1) k p1) p2)) p3) (.ref a) (.ref s4.heap.objs.size)) (EP X pins σ Q) X.xe { s4 with heap := s4.heap.push { cls := .type "slice", data := .fields #[.none, .none, vs] } }
  refine tail_any (ops := [.ref a, .ref s4.heap.objs.size]) ht.typeIs PyProof.Rows.slot_tuple_getitem.lookup ?_ (by with_unfolding_all rfl)
  refine getItem_tuple_rev ht (Heap.IsSliceOf.new _ .none .none vs) ps ?_ (by omega)
  refine ⟨.ref _, _, I5.laid (t' := s4.toks) (o := .tup xs.reverse) (fun b ob q => Heap.get?_push_of_some _ q) (Nat.le_refl _) ?_, rfl, q _ (I5.hok.fresh (Nat.le_refl _))⟩
  first
    | exact ⟨_, r.reverse, IsTup.new _ _, by rw [List.length_reverse]; exact hz⟩
    | exact ⟨_, r.reverse, IsTup.new _ _, by rw [List.length_reverse]; omega⟩
    | exact ⟨by rw [List.length_reverse]; exact hz, _, r.reverse, IsTup.new _ _⟩
    | exact ⟨_, r.reverse, Heap.get?_push_size _ rfl, by rw [List.length_reverse]; exact hz⟩
    | exact ⟨_, by rw [List.length_reverse]; exact hz, r.reverse, Heap.get?_push_size _ rfl⟩
end
end L2
namespace Tt
open PySem PySem.Spec PyProof.Rows L2
section
variable {X : Cx} {m : Bool} {ρ : List Sl} {W : Wx} {Q : Bool → D → List Sl → Prop}
theorem em_revL {a : Expr} {k : Nat} {p1 p2 p3 pos : Pos} (h : EM m X a ρ W fun _ x ρ1 => ∃ ds, x = .list ds ∧ Q true (.list ds.reverse) ρ1) : EM m X (.Subscript a (.Slice none none (some (.UnaryOp .USub (.Constant (.int 1) k p1) p2)) p3) pos) ρ W Q := fun σ I H ok xk R f =>
  ⟨_, pe_revL pe_w, h.run ok xk fun v _ x ρ1 I1 H1 g1 r1 ⟨ds, ex, q⟩ => by
    subst ex
    obtain ⟨a, xs, rfl, ha, t⟩ := r1.lst
    have ok1 := g1.env ok
    exact ⟨a, xs, rfl, SqL.of (ok1.sub.lst ha), fun p n => Res.fin (Q1 := fun o z => Q o z ρ1) ok g1 f (fun _ _ h => h) |>.lst ok1.sub t.rev q n⟩⟩
theorem em_revT {a : Expr} {k : Nat} {p1 p2 p3 pos : Pos} (h : EM m X a ρ W fun _ x ρ1 => ∃ ds, x = .tuple ds ∧ Q false (.tuple ds.reverse) ρ1) : EM m X (.Subscript a (.Slice none none (some (.UnaryOp .USub (.Constant (.int 1) k p1) p2)) p3) pos) ρ W Q := fun σ I H ok xk R f =>
  ⟨_, pe_revT pe_w, h.run ok xk fun v _ x ρ1 I1 H1 g1 r1 ⟨ds, ex, q⟩ => by
    subst ex
    obtain ⟨a, xs, rfl, ha, t⟩ := r1.tup
    have ok1 := g1.env ok
    exact ⟨a, xs, rfl, SqT.of (ok1.sub.tup ha), fun p n => Res.fin (Q1 := fun o z => Q o z ρ1) ok g1 f (fun _ _ h => h) |>.tup ok1.sub t.rev q n⟩⟩
/-- xs[lo:hi] of a list of one's own -/
theorem em_slOwn (i : Nat) {x : Str} {q : Addr} {ds : List D} {lo hi : Option Expr} {p' p2 pos : Pos} (h0 : ρ[i]? = some (.mo q (.lst ds))) (h : OM m X lo ρ W fun l ρ2 => OM m X hi ρ2 W fun u ρ3 => ∃ ds', ρ3[i]? = some (.mo q (.lst ds')) ∧ Q true (.list (cut ds' l u)) ρ3)
    (hN : X.N[i]? = some x := by rfl) (hv : Vis X.env.scope x := by first | exact Or.inl rfl | exact Or.inr (Or.inl rfl) | exact Or.inr (Or.inr rfl))
    (hd : (x == ("__debug__" : Str)) = false := by decide) (hcd : (x == ("__classdict__" : Str)) = false := by decide) : EM m X (.Subscript (.Name x p') (.Slice lo hi none p2) pos) ρ W Q := fun σ I H ok xk R f => by
  obtain ⟨xs, hσ, _, _⟩ := own_at ok h0
  refine ⟨_, pe_slice sl_list (pe_var hN hv hd hcd) po_w po_w, _, hσ, ?_⟩
  obtain ⟨t, ht, k⟩ := om_run h σ I H ok xk
  refine ⟨t, ht, k _ fun l ρ2 I2 H2 g2 q2 => ?_⟩
  obtain ⟨t', ht', k'⟩ := om_run q2 σ I2 H2 (g2.env ok) (xk.step g2.step)
  refine ⟨t', ht', k' _ fun u ρ3 I3 H3 g3 ⟨ds', h3, q3⟩ => ?_⟩
  have g := g2.trans g3
  have ok3 := g.env ok
  obtain ⟨xs', _, hq, tt⟩ := own_at ok3 h3
  exact ⟨q, xs', rfl, SqL.of hq, fun pp n => (Res.fin (Q1 := fun o z => Q o z ρ3) ok g f fun _ _ h => h).lst ok3.sub (dqAll_cut tt l u) q3 n⟩
end
end Tt
namespace L2
open PySem PySem.Spec PyProof.Rows
def repStr (n : Nat) (x : Str) : Str := ⟨(List.replicate n x.cps).foldl (· ++ ·) #[]⟩
theorem repS_len (x : Str) (n : Nat) : (repStr n x).length = n * x.length := by
  unfold repStr
  have e : ∀ (n : Nat) (acc : Array Nat), ((List.replicate n x.cps).foldl (· ++ ·) acc).size = acc.size + n * x.cps.size := by
    intro n
    induction n with
    | zero => intro acc; simp
    | succ n ih =>
      intro acc
      rw [List.replicate_succ, List.foldl_cons, ih, Array.size_append, Nat.succ_mul]
      omega
  have := e n #[]
  simpa [Str.length] using this
/-- a text times a small number -/
theorem op_mul_str {X : Cx} : OpR X (binaryOp .Mult) (fun x y H Q => ∃ (z : Str) (n : Nat), x = .str z ∧ y = .int (n : Nat) ∧ 2 ≤ n ∧ n ≤ 1000 ∧ 1 ≤ z.length ∧ z.length ≤ 1000 ∧ Q (.str (repStr n z)) H) := by
  intro pins s σ H x y v u Q I rx ry h
  obtain ⟨z, n, rfl, rfl, n2, n1, z1, zl, q⟩ := h
  obtain ⟨t, rfl⟩ := rx
  obtain ⟨t', rfl⟩ := ry
  have hl : z.length * n ≤ 1000 * 1000 := Nat.mul_le_mul zl n1
  have a1 : ¬ ((n : Int) < 1) := by omega
  have a2 : (((n : Int) == 1) || z.length == 0) = false := by
    rw [Bool.or_eq_false_iff]
    exact ⟨by rw [beq_eq_false_iff_ne]; omega, by rw [beq_eq_false_iff_ne]; omega⟩
  refine PySem.P.mul_str ?_ (fun _ _ => ?_) (fun _ _ => ?_) ?_
  · have h1 : ¬ ((n : Int) < -(2 ^ 63)) := by omega
    have h2 : ¬ ((n : Int) ≥ 2 ^ 63) := by omega
    rw [decide_eq_false h1, decide_eq_false h2]
    rfl
  · have : (1000 : Int) ≤ (2 ^ 63 - 1) / (n : Int) := by
      refine Int.le_ediv_of_mul_le (by omega) ?_
      have : (1000 : Int) * (n : Int) ≤ 1000 * 1000 := by omega
      omega
    omega
  · unfold Builtin.Str.tooLong
    rw [Int.toNat_natCast]
    have := sizeLine_eq
    simp
    omega
  · rw [if_neg a1, a2]
    show Made.post (Made.str ⟨(List.replicate ((n : Int)).toNat z.cps).foldl (· ++ ·) #[]⟩) _ _
    rw [Int.toNat_natCast]
    exact ⟨by
      have := repS_len z n
      unfold repStr at this
      rw [this, sizeLine_eq]
      have : n * z.length ≤ 1000 * 1000 := Nat.mul_le_mul n1 zl
      omega, .str _, H, I.tok _, ⟨_, rfl⟩, q⟩
end L2
namespace Tt
open PySem PySem.Spec PyProof.Rows L2
theorem fd_mul_str {X : Cx} {Q : Bool → D → Prop} {z : Str} {i : Int} (n : Nat) (e : i = (n : Nat)) (h : 2 ≤ n ∧ n ≤ 1000) (hz : 1 ≤ z.length ∧ z.length ≤ 1000) (q : Q false (.str (repStr n z))) : FD X (binaryOp .Mult) (.str z) (.int i) Q := fun I H v u s rv ru R k => by
  subst e
  rw [rv.str, ru.int]
  exact ⟨_, op_mul_str, z, n, rfl, rfl, h.1, h.2, hz.1, hz.2, k.val s .mkStr q⟩
end Tt

/-! a list of two own lists from two expressions; x[b][c] = y; xs[i], xs[j] = .. -/
namespace Tt
open PySem PySem.Spec PyProof.Rows L2
section
variable {X : Cx} {m : Bool} {ρ : List Sl} {W : Wx} {e b c e1 e2 : Expr} {E : DE} {pos : Pos}
theorem vm_LL2 {QV : Sl → List Sl → Prop} (h : LM m X [e1, e2] ρ W fun ss ρ2 => ∃ q1 q2 l1 l2, ss = [.mo q1 (.lst l1), .mo q2 (.lst l2)] ∧ ∀ p, QV (.ll p [q1, q2] [.lst l1, .lst l2]) ρ2) : VM m X (.List [e1, e2] pos) ρ W QV := fun σ I H ok xk R f =>
  ⟨_, pe_lst pa_w, h σ I H ok xk _ fun vs ss ρ2 I2 H2 g r ⟨q1, q2, l1, l2, es, q⟩ => by
    subst es
    cases r with
    | cons r1 d1 t =>
      cases t with
      | cons r2 d2 t =>
        cases t
        obtain ⟨⟨rfl, u1, h1, x1, rfl, t1⟩, _, f1⟩ := r1
        obtain ⟨⟨rfl, u2, h2, x2, rfl, t2⟩, _, f2⟩ := r2
        refine ⟨by simp [sizeLine_eq], fun p np => ?_⟩
        have ok2 := g.env ok
        have g3 := Grow.dark (o := .lst [.ref q1, .ref q2]) ok2.sub np
        have n12 : q1 ≠ q2 := fun z => d1 q1 (by simp [foot]) (.mo q2 (.lst l2)) List.mem_cons_self (by simp [foot, z])
        have np1 : p ≠ q1 := fun z => by rw [z, h1] at np; cases np
        have np2 : p ≠ q2 := fun z => by rw [z, h2] at np; cases np
        have k1 := f1 q1 (by simp [foot])
        have k2 := f2 q2 (by simp [foot])
        refine f _ (.ll p [q1, q2] [.lst l1, .lst l2]) ρ2 _ _ (g.grow ok g3) ⟨⟨rfl, upd_same, .cons ⟨_, ?_, x1, rfl, t1⟩ (.cons ⟨_, ?_, x2, rfl, t2⟩ .nil)⟩, ?_, fun a z => ?_⟩ (q p)
        · rw [upd_ne (Ne.symm np1)]; exact h1
        · rw [upd_ne (Ne.symm np2)]; exact h2
        · show [p, q1, q2].Nodup
          simp [np1, np2, n12]
        · have z : a ∈ [p, q1, q2] := z
          simp only [List.mem_cons, List.not_mem_nil, or_false] at z
          rcases z with rfl | rfl | rfl
          · exact ⟨g.nn _ np, ok2.sub.nn np⟩
          · exact k1
          · exact k2⟩
/-- x[b][c] = e, x a list of two own lists -/
theorem s1_setLL (i : Nat) {x : Str} {p p1 p2 : Addr} {ms0 : List MO} {pn ps ps2 : Pos} (h0 : ρ[i]? = some (.ll p [p1, p2] ms0)) (hix : PlainIx b)
    (h : EM false X e ρ W fun _ y ρ1 => nd y = true ∧ (∃ ms1, ρ1[i]? = some (.ll p [p1, p2] ms1)) ∧ EM false X b ρ1 W fun _ kk ρ2 => ∃ k : Bool, kk = .int (if k = true then 1 else 0) ∧ (∃ d1 d2, ρ2[i]? = some (.ll p [p1, p2] [.lst d1, .lst d2])) ∧ EM false X c ρ2 W fun _ jj ρ3 => ∃ (j : Nat) (d1 d2 : List D), jj = .int (j : Nat) ∧ ρ3[i]? = some (.ll p [p1, p2] [.lst d1, .lst d2]) ∧ j < (if k = true then d2 else d1).length ∧ E.nx (ρ3.set i (.ll p [p1, p2] [.lst (if k = true then d1 else d1.set j y), .lst (if k = true then d2.set j y else d2)])))
    (hN : X.N[i]? = some x := by rfl) (hv : Vis X.env.scope x := by first | exact Or.inl rfl | exact Or.inr (Or.inl rfl) | exact Or.inr (Or.inr rfl))
    (hd : (x == ("__debug__" : Str)) = false := by decide) (hcd : (x == ("__classdict__" : Str)) = false := by decide)
    (ha : ∀ v, assign (.Subscript (.Subscript (.Name x pn) b ps) c ps2) X.env v = (do
      let ov ← holding [v] (eval (.Subscript (.Name x pn) b ps) X.env)
      let iv ← holding [v, ov] (eval c X.env)
      standAt ps2
      holding [v, ov, iv] (setItem ov iv v)
      release [v, ov, iv] []) := by intro _; rfl)
    (hs : swapsWithSole [.Subscript (.Subscript (.Name x pn) b ps) c ps2] e pos.line X.env = pure false := by rfl) (hw : swappedStores [.Subscript (.Subscript (.Name x pn) b ps) c ps2] e X.env = pure none := by rfl)
    (h1 : List.map (fun x => x.snd) (assignEach [.Subscript (.Subscript (.Name x pn) b ps) c ps2] X.env) = [assign (.Subscript (.Subscript (.Name x pn) b ps) c ps2) X.env] := by rfl) :
    S1 X (.Assign [.Subscript (.Subscript (.Name x pn) b ps) c ps2] e pos) ρ W E := fun σ I H ok xk T k => by
  refine ⟨_, ps_asg pe_w (pg_sub (pe_ix ix_list (pe_var hN hv hd hcd) pe_w hix) pe_w set_list ha) hs hw h1, EM.run h ok xk fun v _ y ρ1 I1 H1 g1 r1 ⟨ny, ⟨ms1, h1⟩, q1⟩ => ?_⟩
  have ok1 := g1.env ok
  obtain ⟨v0, hσ, rfl, _⟩ := ok1.at h1 (fun z => nomatch z)
  refine ⟨_, hσ, EM.run q1 ok1 (xk.step g1.step) fun w _ kk ρ2 I2 H2 g2 r2 ⟨kb, ek, ⟨d1, d2, h2⟩, q2⟩ => ?_⟩
  subst ek
  have ok2 := g2.env ok1
  obtain ⟨x1, x2, hv2, hp, e1, e2, t1, t2, _⟩ := ok2.atLL h2
  rw [r2.int]
  refine ⟨p, _, _, .ref (if kb = true then p2 else p1), rfl, rfl, SqL.of hp, ?_, ?_⟩
  · cases kb <;> rfl
  refine EM.run q2 ok2 ((xk.step g1.step).step g2.step) fun u _ jj ρ3 I3 H3 g3 r3 ⟨j, c1, c2, ej, h3, hj, q3⟩ => ?_
  subst ej
  have ok3 := g3.env ok2
  obtain ⟨y1, y2, hv3, hp3, f1, f2, s1, s2, _⟩ := ok3.atLL h3
  have hk3 : H3 (if kb = true then p2 else p1) = some (.lst (if kb = true then y2 else y1)) := by cases kb; exact f1; exact f2
  have ry := Dq.same g3.ii (Dq.same g2.ii (r1.dp ny))
  have g := mutLL (k := kb) (xs := (if kb = true then y2 else y1).set j v) (e1 := if kb = true then c1 else c1.set j y) (e2 := if kb = true then c2.set j y else c2) ok3 h3 (by
    cases kb with
    | true => exact ⟨rfl, s2.set ry j⟩
    | false => exact ⟨s1.set ry j, rfl⟩)
  have gg := ((g1.trans g2).trans g3).trans g
  rw [r3.int]
  refine ⟨_, (if kb = true then y2 else y1), (j : Int), j, rfl, rfl, hk3, ?_, k.nx _ _ _ _ (gg.env ok) gg.step q3⟩
  have hl : j < (if kb = true then y2 else y1).length := by
    cases kb with
    | true => show j < y2.length; rw [s2.len]; exact hj
    | false => show j < y1.length; rw [s1.len]; exact hj
  unfold ixN
  rw [if_pos (by omega), if_pos (by omega)]
  simp
/-- x[b], x[c] = e, a pair -/
theorem s1_swapIx (i : Nat) {x : Str} {q : Addr} {ds0 : List D} {p' p2 p3 p4 pt : Pos} {kt : Nat} (hc : X.calm = true) (h0 : ρ[i]? = some (.mo q (.lst ds0)))
    (h : EM false X e ρ W fun _ y ρ1 => ∃ y1 y2, y = .tuple [y1, y2] ∧ (∃ ds, ρ1[i]? = some (.mo q (.lst ds))) ∧ EM false X b ρ1 W fun _ kb ρ2 => ∃ (j1 : Nat) (ds1 : List D), kb = .int (j1 : Nat) ∧ ρ2[i]? = some (.mo q (.lst ds1)) ∧ j1 < ds1.length ∧ EM false X c (ρ2.set i (.mo q (.lst (ds1.set j1 y1)))) W fun _ kc ρ3 => ∃ (j2 : Nat) (ds2 : List D), kc = .int (j2 : Nat) ∧ ρ3[i]? = some (.mo q (.lst ds2)) ∧ j2 < ds2.length ∧ E.nx (ρ3.set i (.mo q (.lst (ds2.set j2 y2)))))
    (hN : X.N[i]? = some x := by rfl) (hv : Vis X.env.scope x := by first | exact Or.inl rfl | exact Or.inr (Or.inl rfl) | exact Or.inr (Or.inr rfl))
    (hd : (x == ("__debug__" : Str)) = false := by decide) (hcd : (x == ("__classdict__" : Str)) = false := by decide)
    (ha : ∀ v, assign (.Subscript (.Name x p') b p2) X.env v = (do
      let ov ← holding [v] (eval (.Name x p') X.env)
      let iv ← holding [v, ov] (eval b X.env)
      standAt p2
      holding [v, ov, iv] (setItem ov iv v)
      release [v, ov, iv] []) := by intro _; rfl)
    (ha2 : ∀ v, assign (.Subscript (.Name x p3) c p4) X.env v = (do
      let ov ← holding [v] (eval (.Name x p3) X.env)
      let iv ← holding [v, ov] (eval c X.env)
      standAt p4
      holding [v, ov, iv] (setItem ov iv v)
      release [v, ov, iv] []) := by intro _; rfl)
    (hs : swapsWithSole [.Tuple [.Subscript (.Name x p') b p2, .Subscript (.Name x p3) c p4] kt pt] e pos.line X.env = pure false := by rfl) (hw : swappedStores [.Tuple [.Subscript (.Name x p') b p2, .Subscript (.Name x p3) c p4] kt pt] e X.env = pure none := by rfl)
    (h1 : List.map (fun x => x.snd) (assignEach [.Tuple [.Subscript (.Name x p') b p2, .Subscript (.Name x p3) c p4] kt pt] X.env) = [assign (.Tuple [.Subscript (.Name x p') b p2, .Subscript (.Name x p3) c p4] kt pt) X.env] := by rfl)
    (hs2 : (assignEach [.Subscript (.Name x p') b p2, .Subscript (.Name x p3) c p4] X.env).map (·.2) = assign (.Subscript (.Name x p') b p2) X.env :: (assignEach [.Subscript (.Name x p3) c p4] X.env).map (·.2) := by rfl)
    (hs3 : (assignEach [.Subscript (.Name x p3) c p4] X.env).map (·.2) = assign (.Subscript (.Name x p3) c p4) X.env :: (assignEach [] X.env).map (·.2) := by rfl)
    (hn : (assignEach [.Subscript (.Name x p') b p2, .Subscript (.Name x p3) c p4] X.env).length = 2 := by rfl) (hst : (assignEach [.Subscript (.Name x p') b p2, .Subscript (.Name x p3) c p4] X.env).findIdx? (·.1) = none := by rfl) :
    S1 X (.Assign [.Tuple [.Subscript (.Name x p') b p2, .Subscript (.Name x p3) c p4] kt pt] e pos) ρ W E := fun σ I H ok xk T k => by
  refine ⟨_, ps_asg pe_w (pg_tup hc (pgs_cons (pg_sub (pe_var hN hv hd hcd) pe_w set_list ha) (pgs_cons (pg_sub (pe_var hN hv hd hcd) pe_w set_list ha2) pgs_nil hs3) hs2) hn hst) hs hw h1, EM.run h ok xk fun v _ y ρ1 I1 H1 g1 r1 ⟨y1, y2, ey, ⟨ds, h1⟩, q1⟩ => ?_⟩
  subst ey
  have ok1 := g1.env ok
  obtain ⟨a, xs, rfl, hxa, t⟩ := r1.tup
  cases t with
  | cons ry1 t =>
    cases t with
    | cons ry2 t =>
      cases t
      obtain ⟨xs1, hσ, _, _⟩ := own_at ok1 h1
      refine ⟨a, _, rfl, SqT.of (ok1.sub.tup hxa), rfl, _, _, rfl, _, hσ, EM.run q1 ok1 (xk.step g1.step) fun u _ kb ρ2 I2 H2 g2 r2 ⟨j1, ds1, ek, h2, l1, q2⟩ => ?_⟩
      subst ek
      have ok2 := g2.env ok1
      obtain ⟨xs2, hσ2, hH2, t2⟩ := own_at ok2 h2
      have m2 := ok2.mut (mo' := .lst (ds1.set j1 y1)) h2 ⟨_, rfl, t2.set (Dq.same g2.ii ry1) j1⟩
      have ok2' := m2.env ok2
      rw [r2.int]
      refine ⟨q, xs2, (j1 : Int), j1, rfl, rfl, hH2, ?_, ?_⟩
      · unfold ixN
        rw [if_pos (by omega), if_pos (by rw [t2.len]; omega)]
        simp
      refine ⟨_, _, rfl, _, hσ2, EM.run q2 ok2' (((xk.step g1.step).step g2.step).step m2.step) fun u3 _ kc ρ3 I3 H3 g3 r3 ⟨j2, ds2, ek3, h3, l2, q3⟩ => ?_⟩
      subst ek3
      have ok3 := g3.env ok2'
      obtain ⟨xs3, hσ3, hH3, t3⟩ := own_at ok3 h3
      have m3 := ok3.mut (mo' := .lst (ds2.set j2 y2)) h3 ⟨_, rfl, t3.set (Dq.same g3.ii (Dq.same g2.ii ry2)) j2⟩
      rw [r3.int]
      have gg := (((g1.trans g2).trans m2).trans g3).trans m3
      refine ⟨q, xs3, (j2 : Int), j2, rfl, rfl, hH3, ?_, rfl, k.nx _ _ _ _ (gg.env ok) gg.step q3⟩
      unfold ixN
      rw [if_pos (by omega), if_pos (by rw [t3.len]; omega)]
      simp
end
end Tt

/-! [elt for a in xs for b in ys if c], all parts pure. -/
namespace Tt
open PySem PySem.Spec PyProof.Rows L2
theorem EnvOk.updDark {K : PySem.W.Frag} {I H : Hp} {σ : L2.St} {ρ : List Sl} {D : Addr} {o : HO} (ok : EnvOk K I H σ ρ) (nI : I D = none) (nm : ¬ Mt ρ D) : EnvOk K I (upd H D o) σ ρ := by
  refine ⟨ok.len, fun j s e => ?_, ok.nd, ok.dj, ok.out, fun a u e => ?_⟩
  · refine (ok.ok j s e).grow (Same.refl I) fun a u ha e2 => ?_
    rw [upd_ne]
    · exact e2
    · intro z
      subst z
      exact nm ⟨j, by rw [ft_at e]; exact ha⟩
  · rw [upd_ne (ne_of_none e nI)]
    exact ok.sub a u e
theorem flat_len {α β : Type} (g : α → List β) (b : Nat) : ∀ xs : List α, (∀ a ∈ xs, (g a).length ≤ b) → (xs.flatMap g).length ≤ xs.length * b
  | [], _ => by simp
  | x :: xs, h => by
    rw [List.flatMap_cons, List.length_append, List.length_cons, Nat.succ_mul]
    have h1 := h x List.mem_cons_self
    have h2 := flat_len g b xs fun a m => h a (List.mem_cons_of_mem _ m)
    omega
def wIb (X : Cx) (scope : Scope) (tg iter : Expr) : TI := fun σ H R => ∀ s H0 C cl fp, wI (bk X scope s H0 C cl fp) tg iter σ H R
theorem pi_wb {X : Cx} {scope : Scope} {tg iter : Expr} (s : Shared) (H0 : Hp) (C : Addr) (cl : List (Str × Addr)) (fp : List Addr) : PI (bk X scope s H0 C cl fp) tg iter (wIb X scope tg iter) :=
  ⟨fun pins s1 σ H R I h => by
    obtain ⟨t, ht, q⟩ := h s H0 C cl fp
    exact ht.run pins s1 σ H R I q⟩
section
variable {X : Cx} {m : Bool} {ρ : List Sl} {W : Wx} {elt tg iter tg1 iter1 : Expr} {ifs1 : List Expr} {scope : Scope} {pos : Pos} {Q : Bool → D → List Sl → Prop}
def HFm2 (X : Cx) (elt tg iter tg1 iter1 : Expr) (ifs1 : List Expr) (scope : Scope) (t t1 : Tg) (vs vs1 : List Nat) (ρ : List Sl) (W : Wx) (Q : List D → Prop) : Prop :=
  IM true X tg iter ρ W fun its _ => ∃ (α : Type) (xs : List α) (enc : α → D) (g : α → List D), its = xs.map enc ∧ ∃ b : Nat, xs.length * b ≤ 1000000 ∧ b ≤ 1000000 ∧ (∀ a ∈ xs, (g a).length ≤ b ∧ ∃ ρ3, Tg.put t (enc a) (wipeS ρ vs) = some ρ3 ∧ InB X scope fun Y => IM true Y tg1 iter1 ρ3 W0 fun its1 _ => ∃ (β : Type) (ys : List β) (enc1 : β → D) (p : β → Bool) (g1 : β → D), its1 = ys.map enc1 ∧ (∀ b ∈ ys, ∃ ρ4, Tg.put t1 (enc1 b) (wipeS ρ3 vs1) = some ρ4 ∧ InB X scope fun Z => SM true Z ifs1 ρ4 (fun k _ => k = p b) ∧ (p b = true → EM true Z elt ρ4 W0 fun _ y _ => nd y = true ∧ y = g1 b)) ∧ g a = (ys.filter p).map g1) ∧ Q (xs.flatMap g)
theorem lc2_pure {t t1 : Tg} {own : List (Str × Nat)} {vs1 : List Nat} {QL : List D → Prop} (ht : ∀ i ∈ Tg.slots t, i ∈ own.map (·.2)) (ht1 : ∀ i ∈ Tg.slots t1, i ∈ vs1) (h : HFm2 X elt tg iter tg1 iter1 ifs1 scope t t1 (own.map (·.2)) vs1 ρ W QL) {σ : L2.St} {I H : Hp} (ok : EnvOk X.K I H σ ρ) (xk : XOk X W H ρ) {R : VK}
    (f : ∀ v ds I' H', Go true X.K σ ρ I H ρ I' H' → RsOk X.K H I' H' v true (.list ds) → QL ds → R v H') : tLc2 (wI X tg iter) (Tg.g X.K t) (wTsb X scope []) (wIb X scope tg1 iter1) (Tg.g X.K t1) (wTsb X scope ifs1) (wEb X scope elt) (own.map (·.2)) vs1 σ H R := by
  refine h σ I H ok xk _ fun J its ρ1 I1 H1 g1 w ⟨α, xs, enc, g, e, bb, lz, lb, turn, q⟩ D nD => ?_
  obtain rfl : ρ1 = ρ := g1.1
  have ok1 := g1.env ok
  have nI1 : I1 D = none := ok1.sub.nn nD
  have hn : its.length = xs.length := by rw [e, List.length_map]
  have ww := w.w
  rw [hn] at ww
  refine ⟨fun i m H' => m = xs.length - i ∧ i ≤ xs.length ∧ ∃ I2 acc, Go true X.K σ ρ1 I1 H1 ρ1 I2 H' ∧ I2 D = none ∧ H' D = some (.lst acc) ∧ DqAll I2 acc ((xs.take i).flatMap g), ⟨xs.length, by simp, Nat.zero_le _, I1, [], (Go.refl ok1).dark ok1 nD nI1, nI1, upd_same, .nil⟩, ?_⟩
  rintro i m H' ⟨rfl, hi, I2, acc, go, nd2, hD, ha⟩
  have ok2 := go.env ok1
  by_cases hlt : ¬ i < xs.length
  · have ei : i = xs.length := by omega
    subst ei
    rw [List.take_length] at ha
    exact .inl ⟨ww.stops H' (ok2.sub.same go.ii), f _ _ I2 H' (g1.trans go) ⟨D, acc, _, rfl, rfl, g1.nn D nD, nd2, hD, ha⟩ q⟩
  replace hlt := Decidable.not_not.mp hlt
  refine .inr ⟨ww.goes i H' hlt (ok2.sub.same go.ii), fun H'' => i + 1 ≤ xs.length ∧ ∃ I2 acc, Go true X.K σ ρ1 I1 H1 ρ1 I2 H'' ∧ I2 D = none ∧ H'' D = some (.lst acc) ∧ DqAll I2 acc ((xs.take (i + 1)).flatMap g), fun H'' p' => ⟨xs.length - (i + 1), by omega, rfl, hlt, p'.2⟩, fun x H'' y => ?_⟩
  obtain ⟨d, hd, y⟩ := ww.yields i H' x H'' hlt (ok2.sub.same go.ii) y
  obtain ⟨I3, g3, r3⟩ := y I2 go.ii ok2.sub
  obtain ⟨a, hxa⟩ : ∃ a, xs[i]? = some a := ⟨_, List.getElem?_eq_getElem hlt⟩
  rw [e, List.getElem?_map, hxa] at hd
  cases hd
  obtain ⟨lga, ρ3, e3, body⟩ := turn a (List.mem_of_getElem? hxa)
  have ok3 := ok2.grow g3
  obtain ⟨σ3, p3, q3⟩ := Tg.run t (EnvOk.wiped (vs := own.map (·.2)) ok3) r3 e3
  have gg := go.grow ok1 g3
  have hD3 : H'' D = some (.lst acc) := g3.hh D _ hD
  have nd3 : I3 D = none := g3.fr D _ hD nd2
  have nm : ¬ Mt ρ3 D := fun z => by
    obtain ⟨j, hj⟩ := p3.mt D z
    obtain ⟨o, e⟩ := ok1.there (⟨j, (ft_wipe hj).1⟩)
    rw [nD] at e
    cases e
  have tk : (xs.take (i + 1)).flatMap g = (xs.take i).flatMap g ++ g a := by
    rw [List.take_add_one, hxa, List.flatMap_append]
    simp
  have lpre : ((xs.take i).flatMap g).length ≤ 1000000 := by
    have := flat_len g bb (xs.take i) fun a m => (turn a (List.mem_of_mem_take m)).1
    rw [List.length_take] at this
    have h2 : min i xs.length * bb ≤ xs.length * bb := Nat.mul_le_mul_right bb (by omega)
    omega
  refine q3 _ ⟨wipe_put p3 ht, fun s0 H0 C cl fp => ?_⟩
  refine sm_run (show SM true (bk X scope s0 H0 C cl fp) [] ρ3 (fun b _ => b = true) from rfl) p3.env fun b ρ4 I4 H4 g4 eb => ?_
  subst eb
  obtain rfl : ρ4 = ρ3 := g4.1
  refine iteT fun s1 H1' C1 cl1 fp1 => ?_
  refine body s1 H1' C1 cl1 fp1 σ3 I4 H4 (g4.env p3.env) XOk.zero _ fun J1 its1 ρ5 I5 H5 g5 w1 ⟨β, ys, enc1, p, g1', e1, turn1, eg⟩ => ?_
  obtain rfl : ρ5 = ρ4 := g5.1
  have g45 := g4.trans g5
  have ok5 := g45.env p3.env
  have hD5 : H5 D = some (.lst acc) := g45.2.hh D _ hD3
  have nd5 : I5 D = none := g45.2.fr D _ hD3 nd3
  have gG := gg.grow ok1 g45.2
  have ha5 := DqAll.same (g3.ii.trans g45.ii) ha
  have hn1 : its1.length = ys.length := by rw [e1, List.length_map]
  have ww1 := w1.w
  rw [hn1] at ww1
  have lflt : ∀ j, (((ys.take j).filter p).map g1').length ≤ 1000000 := fun j => by
    rw [List.length_map]
    have h1 : ((ys.take j).filter p).length ≤ (ys.filter p).length := ((List.take_sublist j ys).filter p).length_le
    have h2 : (ys.filter p).length ≤ 1000000 := by
      have := lga
      rw [eg, List.length_map] at this
      omega
    omega
  refine ⟨fun j k H6 => k = ys.length - j ∧ j ≤ ys.length ∧ ∃ I6 acc6, EnvOk X.K I6 H6 σ3 ρ5 ∧ Go true X.K σ ρ1 I1 H1 ρ1 I6 H6 ∧ Same I5 I6 ∧ I6 D = none ∧ H6 D = some (.lst acc6) ∧ DqAll I6 acc6 ((xs.take i).flatMap g ++ ((ys.take j).filter p).map g1'), ⟨ys.length, by simp, Nat.zero_le _, I5, acc, ok5, gG, Same.refl I5, nd5, hD5, by simpa using ha5⟩, ?_⟩
  rintro j k H6 ⟨rfl, hj, I6, acc6, ok6, go6, sm6, nd6, hD6, ha6⟩
  by_cases hlt1 : ¬ j < ys.length
  · have ej : j = ys.length := by omega
    subst ej
    rw [List.take_length, ← eg, ← tk] at ha6
    exact .inl ⟨ww1.stops H6 (ok6.sub.same sm6), by omega, I6, acc6, go6, nd6, hD6, ha6⟩
  replace hlt1 := Decidable.not_not.mp hlt1
  refine .inr ⟨ww1.goes j H6 hlt1 (ok6.sub.same sm6), fun H7 => ∃ I6 acc6, EnvOk X.K I6 H7 σ3 ρ5 ∧ Go true X.K σ ρ1 I1 H1 ρ1 I6 H7 ∧ Same I5 I6 ∧ I6 D = none ∧ H7 D = some (.lst acc6) ∧ DqAll I6 acc6 ((xs.take i).flatMap g ++ ((ys.take (j + 1)).filter p).map g1'), fun H7 p' => ⟨ys.length - (j + 1), by omega, rfl, hlt1, p'⟩, fun x1 H7 y1 => ?_⟩
  obtain ⟨d1, hd1, y1⟩ := ww1.yields j H6 x1 H7 hlt1 (ok6.sub.same sm6) y1
  obtain ⟨I7, g7, r7⟩ := y1 I6 sm6 ok6.sub
  obtain ⟨b, hyb⟩ : ∃ b, ys[j]? = some b := ⟨_, List.getElem?_eq_getElem hlt1⟩
  rw [e1, List.getElem?_map, hyb] at hd1
  cases hd1
  obtain ⟨ρ6, e4, body1⟩ := turn1 b (List.mem_of_getElem? hyb)
  have ok7 := ok6.grow g7
  obtain ⟨σ4, p4, q4⟩ := Tg.run t1 (EnvOk.wiped (vs := vs1) ok7) r7 e4
  have tk1 : ((ys.take (j + 1)).filter p).map g1' = ((ys.take j).filter p).map g1' ++ if p b = true then [g1' b] else [] := by
    rw [List.take_add_one, hyb, List.filter_append, List.map_append]
    congr 1
    show (List.filter p [b]).map g1' = _
    rw [List.filter_cons]
    cases p b <;> rfl
  refine q4 _ ⟨wipe_put p4 ht1, fun s0 H0 C cl fp => ?_⟩
  have b1 := (body1 s0 H0 C cl fp).1
  refine sm_run (show SM true (bk X scope s0 H0 C cl fp) ifs1 ρ6 (fun k _ => k = p b) from b1) p4.env fun kb ρ7 I8 H8 g8 ek => ?_
  obtain rfl : ρ7 = ρ6 := g8.1
  have g78 := g7.trans g8.2
  have go8 := go6.grow ok1 g78
  have ok8 := ok6.grow g78
  have hD8 : H8 D = some (.lst acc6) := g78.hh D _ hD6
  have nd8 : I8 D = none := g78.fr D _ hD6 nd6
  have ha8 := DqAll.same g78.ii ha6
  have sm8 : Same I5 I8 := sm6.trans g78.ii
  cases kb with
  | false =>
    refine iteF ⟨I8, acc6, ok8, go8, sm8, nd8, hD8, ?_⟩
    rw [tk1, ← ek, if_neg Bool.false_ne_true, List.append_nil]
    exact ha8
  | true =>
    refine iteT fun s2 H2' C2 cl2 fp2 => ?_
    refine EM.run ((body1 s2 H2' C2 cl2 fp2).2 ek.symm) (g8.env p4.env) XOk.zero fun v o yy ρ8 I9 H9 g9 r9 ⟨ny, ey⟩ => ?_
    obtain rfl : ρ8 = ρ7 := g9.1
    have g89 := g78.trans g9.2
    have go9 := go6.grow ok1 g89
    have ok9 := ok6.grow g89
    have hD9 : H9 D = some (.lst acc6) := g89.hh D _ hD6
    have nd9 : I9 D = none := g89.fr D _ hD6 nd6
    have ha9 := DqAll.same g89.ii ha6
    refine ⟨acc6, hD9, ?_, I9, acc6 ++ [v], ok9.updDark nd9 nm, go9.dark ok1 nD nd9, sm6.trans g89.ii, nd9, upd_same, ?_⟩
    · rw [ha9.len, List.length_append]
      have := lflt j
      have := sizeLine_eq
      omega
    · rw [tk1, ← ek, if_pos rfl, ← List.append_assoc]
      exact DqAll.app ha9 (.cons (by rw [← ey]; exact r9.dp ny) .nil)
theorem em_fm2 (t t1 : Tg) (own : List (Str × Nat)) (vs1 : List Nat) (hc : X.calm = true) (hN : X.N.Nodup) (ok : BlkOk X.N X.env.scope scope own) (hv : ∀ i ∈ vs1, i ∈ own.map (·.2)) (hg : InB X scope fun Y => PG Y tg (Tg.g X.K t)) (hg1 : InB X scope fun Y => PG Y tg1 (Tg.g X.K t1)) (ht : ∀ i ∈ Tg.slots t, i ∈ own.map (·.2)) (ht1 : ∀ i ∈ Tg.slots t1, i ∈ vs1)
    (h : HFm2 X elt tg iter tg1 iter1 ifs1 scope t t1 (own.map (·.2)) vs1 ρ W fun ys => Q true (.list ys) ρ) (hs : ∀ x, foldedSetIterable iter X.env x = pure x := by intro _; rfl) (hs1 : ∀ env x, foldedSetIterable iter1 env x = pure x := by intro _ _; rfl) : EM m X (.ListComp elt [⟨tg, iter, [], 0⟩, ⟨tg1, iter1, ifs1, 0⟩] scope pos) ρ W Q := fun σ I H okk xk R f =>
  ⟨_, pe_lc2 hc hN pi_w ok hv (fun s H C cl fp => hg s H C cl fp) pts_wb pi_wb (fun s H C cl fp => hg1 s H C cl fp) pts_wb pe_wb hs hs1, lc2_pure ht ht1 h okk xk fun v ds I' H' g r q => f v true _ ρ I' H' (g.any okk) r q⟩
end
end Tt

/-! Tables of sets with many members: x -> 5 x + 1 goes round below each power of two. -/
namespace Tt
open PySem PySem.Spec PyProof.Rows L2

def five (x : Nat) : Nat → Nat
  | 0 => x
  | n + 1 => 5 * five x n + 1
theorem five_add (x a : Nat) : ∀ b, five x (a + b) = five (five x a) b
  | 0 => rfl
  | b + 1 => by show 5 * five x (a + b) + 1 = 5 * five (five x a) b + 1; rw [five_add x a b]
theorem five_pow (x : Nat) : ∀ n, 4 * five x n + 1 = 5 ^ n * (4 * x + 1)
  | 0 => by simp [five]
  | n + 1 => by
    have h := five_pow x n
    rw [Nat.pow_succ]
    show 4 * (5 * five x n + 1) + 1 = _
    have e : 5 ^ n * 5 * (4 * x + 1) = 5 * (5 ^ n * (4 * x + 1)) := by grind
    rw [e, ← h]
    omega
theorem pow_odd : ∀ e, ∃ c, 5 ^ (2 ^ e) = 1 + 4 * 2 ^ e * (2 * c + 1)
  | 0 => ⟨0, rfl⟩
  | e + 1 => by
    obtain ⟨c, h⟩ := pow_odd e
    refine ⟨c + 2 ^ e * (2 * c + 1) * (2 * c + 1), ?_⟩
    have e1 : 5 ^ (2 ^ (e + 1)) = 5 ^ (2 ^ e) * 5 ^ (2 ^ e) := by rw [← Nat.pow_add]; congr 1; rw [Nat.pow_succ]; omega
    rw [e1, h, Nat.pow_succ]
    generalize 2 ^ e = M
    grind
theorem five_round (x e : Nat) : ∃ c, five x (2 ^ e) = x + 2 ^ e + 2 ^ e * 2 * c := by
  obtain ⟨c, h⟩ := pow_odd e
  have p := five_pow x (2 ^ e)
  rw [h] at p
  refine ⟨c * (4 * x + 1) + 2 * x, ?_⟩
  generalize 2 ^ e = M at *
  generalize five x M = F at *
  grind
theorem five_meets : ∀ (e i j : Nat), ∃ n, n < 2 ^ e ∧ five i n % 2 ^ e = j % 2 ^ e
  | 0, i, j => ⟨0, Nat.one_pos, by simp [Nat.mod_one]⟩
  | e + 1, i, j => by
    obtain ⟨n, hn, h⟩ := five_meets e i j
    obtain ⟨c, hc⟩ := five_round (five i n) e
    have hp : 0 < 2 ^ e := Nat.two_pow_pos e
    rw [Nat.pow_succ]
    rcases Nat.mod_two_eq_zero_or_one (five i n / 2 ^ e) with a | a <;> rcases Nat.mod_two_eq_zero_or_one (j / 2 ^ e) with b | b
    · exact ⟨n, by omega, by rw [Nat.mod_mul, Nat.mod_mul, h, a, b]⟩
    · refine ⟨n + 2 ^ e, by omega, ?_⟩
      rw [five_add, hc, Nat.add_mul_mod_self_left, Nat.mod_mul, Nat.mod_mul, Nat.add_mod_right, h, Nat.add_div_right _ hp, b, Nat.add_mod, a]
    · refine ⟨n + 2 ^ e, by omega, ?_⟩
      rw [five_add, hc, Nat.add_mul_mod_self_left, Nat.mod_mul, Nat.mod_mul, Nat.add_mod_right, h, Nat.add_div_right _ hp, b, Nat.add_mod, a]
    · exact ⟨n, by omega, by rw [Nat.mod_mul, Nat.mod_mul, h, a, b]⟩
/-- each slot is met, from anywhere -/
def Good (m : Nat) : Prop := ∀ i j, i ≤ m → j ≤ m → ∃ k, k ≤ m ∧ lcgI m i k = j
theorem lcgI_five (m i : Nat) (hi : i ≤ m) : ∀ k, lcgI m i k = five i k % (m + 1)
  | 0 => (Nat.mod_eq_of_lt (Nat.lt_succ_of_le hi)).symm
  | k + 1 => by
    show (lcgI m i k * 5 + 1) % (m + 1) = (5 * five i k + 1) % (m + 1)
    rw [lcgI_five m i hi k, Nat.mul_comm 5, Nat.add_mod, Nat.mod_mul_mod, ← Nat.add_mod]
theorem good_pow (e : Nat) : Good (2 ^ e - 1) := fun i j hi hj => by
  have hp : 0 < 2 ^ e := Nat.two_pow_pos e
  obtain ⟨n, hn, h⟩ := five_meets e i j
  refine ⟨n, by omega, ?_⟩
  rw [lcgI_five _ _ hi, show 2 ^ e - 1 + 1 = 2 ^ e by omega, h]
  exact Nat.mod_eq_of_lt (by omega)
theorem run_at {m : Nat} (g : Good m) (h : Int) {j : Nat} (hj : j ≤ m) : ∃ n, n ≤ m + 12 ∧ runI m (SetTable.bits h) n = j := by
  obtain ⟨k, hk, e⟩ := g _ j (runI_le m (SetTable.bits h) 12) hj
  exact ⟨12 + k, by omega, (runI_tail (bits_lt h) k).trans e⟩
theorem way_at {m : Nat} (g : Good m) (h : Int) {j : Nat} (hj : j ≤ m) : ∃ k, k < 10 * SetTable.turns m ∧ way m h k = j := by
  obtain ⟨n, hn, e⟩ := run_at g h hj
  obtain ⟨k, hk, e2⟩ := run_nth m (SetTable.bits h) n
  refine ⟨k, by unfold SetTable.turns; omega, ?_⟩
  show (nth m _ k).j = j
  rw [e2]
  exact e
theorem way_in (m : Nat) (h : Int) (k : Nat) : way m h k ≤ m := by
  have hi : SetTable.bits h % (m + 1) ≤ m := Nat.le_of_lt_succ (Nat.mod_lt _ (Nat.succ_pos _))
  have r := runEnd_bd hi
  have q := nth_in (m := m) k (runAt m (SetTable.bits h % (m + 1)) (SetTable.bits h)) (by
    show SetTable.bits h % (m + 1) + (SetTable.runEnd m _ - _) ≤ m
    omega)
  exact Nat.le_trans (Nat.le_add_right _ _) q

/-! ### chains -/
/-- slots and hashes: each stands on its hash's way behind taken slots only -/
def Chain (m : Nat) (Z : List (Nat × Int)) : Prop := ∀ z ∈ Z, ∃ k, way m z.2 k = z.1 ∧ ∀ c, c < k → way m z.2 c ∈ Z.map (·.1)
theorem Chain.perm {m : Nat} {Z Y : List (Nat × Int)} (p : Z.Perm Y) (c : Chain m Z) : Chain m Y := fun z hz => by
  obtain ⟨k, e, h⟩ := c z (p.mem_iff.mpr hz)
  exact ⟨k, e, fun i hi => (p.map (·.1)).mem_iff.mp (h i hi)⟩
theorem Chain.cons {m : Nat} {Z : List (Nat × Int)} (c : Chain m Z) {h : Int} {K : Nat} (b : ∀ i, i < K → way m h i ∈ Z.map (·.1)) : Chain m ((way m h K, h) :: Z) := fun z hz => by
  rcases List.mem_cons.mp hz with rfl | hz
  · exact ⟨K, rfl, fun i hi => List.mem_cons_of_mem _ (b i hi)⟩
  · obtain ⟨k, e, h⟩ := c z hz
    exact ⟨k, e, fun i hi => List.mem_cons_of_mem _ (h i hi)⟩
theorem zip_ins {α β : Type} {p : Nat} (x : α) (y : β) {l : List α} {k : List β} (h : l.length = k.length) : ((l.take p ++ x :: l.drop p).zip (k.take p ++ y :: k.drop p)).Perm ((x, y) :: l.zip k) := by
  rw [List.zip_append (by simp [h]), List.zip_cons_cons]
  have e : (l.take p).zip (k.take p) ++ (l.drop p).zip (k.drop p) = l.zip k := by
    rw [← List.zip_append (by simp [h]), List.take_append_drop, List.take_append_drop]
  rw [← e]
  exact List.perm_middle
/-- a table whose elements all are found -/
structure Tab (t : SetTable) (hs : List Int) : Prop where
  ris : Ris t.place.toList
  dm : t.dummies = #[]
  sz : t.place.toList.length = hs.length
  bd : ∀ x ∈ t.place.toList, x ≤ t.mask
  ch : Chain t.mask (t.place.toList.zip hs)
theorem Tab.fst {t : SetTable} {hs : List Int} (T : Tab t hs) : (t.place.toList.zip hs).map (·.1) = t.place.toList := List.map_fst_zip (Nat.le_of_eq T.sz)
theorem Tab.first {t : SetTable} {hs : List Int} (T : Tab t hs) (g : Good t.mask) (hl : hs.length ≤ t.mask) (h : Int) : ∃ K, K < 10 * SetTable.turns t.mask ∧ way t.mask h K ∉ t.place.toList ∧ ∀ k, k < K → way t.mask h k ∈ t.place.toList := by
  obtain ⟨j, hj, n⟩ := st_missing t.place.toList (t.mask + 1) (by rw [T.sz]; omega)
  obtain ⟨k, hk, e⟩ := way_at g h (Nat.le_of_lt_succ hj)
  obtain ⟨K, a, b, c⟩ := st_least (p := fun k => way t.mask h k ∉ t.place.toList) k (show way t.mask h k ∉ _ by rw [e]; exact n)
  exact ⟨K, Nat.lt_of_le_of_lt a hk, b, fun i hi => Classical.not_not.mp (c i hi)⟩
theorem Tab.before {t : SetTable} {hs : List Int} (T : Tab t hs) {h : Int} {K i j : Nat} (hK : way t.mask h K ∉ t.place.toList) (hi : hs[i]? = some h) (hj : t.place.toList[i]? = some j) : ∃ k, k < K ∧ way t.mask h k = j := by
  have hz : (j, h) ∈ t.place.toList.zip hs := List.mem_of_getElem? (i := i) (by rw [List.getElem?_zip_eq_some]; exact ⟨hj, hi⟩)
  obtain ⟨k, e, b⟩ := T.ch _ hz
  rw [T.fst] at b
  refine ⟨k, ?_, e⟩
  rcases Nat.lt_trichotomy k K with c | c | c
  · exact c
  · subst c
    exact absurd (List.mem_of_getElem? hj) fun mm => hK (by rw [show way t.mask h k = j from e]; exact mm)
  · exact absurd (b K c) hK
theorem Tab.put {t : SetTable} {hs : List Int} (T : Tab t hs) {h : Int} {K : Nat} (hK : way t.mask h K ∉ t.place.toList) (hb : ∀ k, k < K → way t.mask h k ∈ t.place.toList) :
    ∃ p, SetTable.below t.place (way t.mask h K) = p ∧ p ≤ hs.length ∧ (t.put (way t.mask h K)).2 = p ∧ Tab (t.put (way t.mask h K)).1 (hs.take p ++ h :: hs.drop p) ∧ (t.put (way t.mask h K)).1.mask = t.mask ∧ (t.put (way t.mask h K)).1.led = t.led ∧
      (t.put (way t.mask h K)).1.fill = hs.length + 1 := by
  refine ⟨_, rfl, ?_, rfl, ?_, rfl, rfl, ?_⟩
  all_goals have hjm := way_in t.mask h K
  all_goals have hpp := put_place t (way t.mask h K)
  all_goals have cut := below_cut T.ris (way t.mask h K)
  all_goals have hpl : SetTable.below t.place (way t.mask h K) ≤ t.place.toList.length := by rw [Array.length_toList]; exact cut.1
  · rw [← T.sz]; exact hpl
  · have pz := zip_ins (p := SetTable.below t.place (way t.mask h K)) (way t.mask h K) h T.sz
    refine ⟨ris_insert T.ris fun e => hK (List.mem_of_getElem? (by rw [Array.getElem?_toList]; exact e)), put_dm T.dm _, ?_, fun x hx => ?_, ?_⟩
    · rw [hpp, len_ins _ hpl, len_ins _ (by rw [← T.sz]; exact hpl), T.sz]
    · rw [hpp] at hx
      rcases mem_ins.1 hx with z | z
      · rw [z]; exact hjm
      · exact T.bd x z
    · rw [hpp]
      exact (T.ch.cons (by rw [T.fst]; exact hb)).perm pz.symm
  · show (t.put (way t.mask h K)).1.place.size + (t.put (way t.mask h K)).1.dummies.size = hs.length + 1
    rw [put_dm T.dm, ← Array.length_toList, hpp, len_ins _ hpl, T.sz]
    rfl

/-! ### laid anew -/
theorem free_at {m : Nat} (g : Good m) (owner : Array (Option Nat)) (h : Int) {j : Nat} (hj : j ≤ m) (hf : oAt owner j = none) :
    ∃ K, SetTable.layClean.free m owner (SetTable.turns m) (SetTable.bits h % (m + 1)) (SetTable.bits h) = some (way m h K) ∧ oAt owner (way m h K) = none ∧ ∀ k, k < K → oAt owner (way m h k) ≠ none := by
  obtain ⟨n, hn, e⟩ := run_at g h hj
  have hw : oAt owner (way m h (off m (SetTable.bits h % (m + 1)) (SetTable.bits h) n)) = none := by
    show oAt owner (nth m _ _).j = none
    rw [nth_off, itL_run]
    show oAt owner (runI m (SetTable.bits h) n) = none
    rw [e]
    exact hf
  obtain ⟨K, a, b, c⟩ := st_least (p := fun k => oAt owner (way m h k) = none) _ hw
  refine ⟨K, free_spec m owner (SetTable.turns m) n _ _ K (by unfold SetTable.turns; omega) a (fun k hk => ?_) (by show (oAt owner (way m h K)).isNone = true; rw [b]; rfl), b, c⟩
  have q := c k hk
  show (oAt owner (way m h k)).isNone = false
  cases z : oAt owner (way m h k) with
  | none => exact absurd z q
  | some _ => rfl
theorem own_step {m : Nat} (g : Good m) {done : List Int} {owner : Array (Option Nat)} (W : Own m done owner) (hl : done.length ≤ m) (h : Int) :
    ∃ j, SetTable.layClean.free m owner (SetTable.turns m) (SetTable.bits h % (m + 1)) (SetTable.bits h) = some j ∧ Own m (done ++ [h]) (owner.setIfInBounds j (some done.length)) := by
  obtain ⟨ps, hps, hin⟩ := W.ps
  obtain ⟨f, hf, nf⟩ := st_missing ps (m + 1) (by omega)
  have ff : oAt owner f = none := Classical.not_not.mp fun c => nf (hin f (Nat.le_of_lt_succ hf) c)
  obtain ⟨K, e, z, b⟩ := free_at g owner h (Nat.le_of_lt_succ hf) ff
  have hjm := way_in m h K
  generalize hj : way m h K = j at e z hjm
  have self := oAt_set_self (owner := owner) (some done.length) (show j < owner.size by rw [W.sz]; omega)
  have up : ∀ i, oAt owner i ≠ none → oAt (owner.setIfInBounds j (some done.length)) i = oAt owner i := fun i hi => oAt_set_ne _ fun c => hi (by rw [c]; exact z)
  have up2 : ∀ i, oAt owner i ≠ none → oAt (owner.setIfInBounds j (some done.length)) i ≠ none := fun i hi => by rw [up i hi]; exact hi
  have down : ∀ i, i ≠ j → oAt (owner.setIfInBounds j (some done.length)) i = oAt owner i := fun i hi => oAt_set_ne _ hi
  refine ⟨j, e, { sz := by rw [Array.size_setIfInBounds]; exact W.sz, at_ := fun i k hi q => ?_, all := fun k hk => ?_, ps := ⟨j :: ps, by simp [hps], fun i hi q => ?_⟩ }⟩
  · by_cases c : i = j
    · subst c
      rw [self] at q
      cases q
      exact ⟨h, K, by simp, hj, fun c hc => up2 _ (b c hc)⟩
    · rw [down i c] at q
      obtain ⟨h', K', a1, a2, a3⟩ := W.at_ i k hi q
      exact ⟨h', K', by rw [List.getElem?_append_left (List.getElem?_eq_some_iff.mp a1).1]; exact a1, a2, fun c hc => up2 _ (a3 c hc)⟩
  · rw [List.length_append, List.length_singleton] at hk
    rcases Nat.lt_or_ge k done.length with c | c
    · obtain ⟨i, hi, q⟩ := W.all k c
      exact ⟨i, hi, by rw [up i (by rw [q]; exact fun w => nomatch w)]; exact q⟩
    · rw [show k = done.length by omega]
      exact ⟨j, hjm, self⟩
  · by_cases c : i = j
    · rw [c]; exact List.mem_cons_self
    · rw [down i c] at q
      exact List.mem_cons_of_mem _ (hin i hi q)
theorem lay_fold {m : Nat} (g : Good m) : ∀ (rest done : List Int) (owner : Array (Option Nat)), Own m done owner → done.length + rest.length ≤ m →
    ∃ o, rest.foldl (stepF m) (some (owner, done.length)) = some (o, (done ++ rest).length) ∧ Own m (done ++ rest) o := by
  intro rest
  induction rest with
  | nil => intro done owner W _; exact ⟨owner, by simp, by simpa using W⟩
  | cons h rest ih =>
    intro done owner W hl
    rw [List.length_cons] at hl
    obtain ⟨j, e, W2⟩ := own_step g W (by omega) h
    obtain ⟨o, f, W3⟩ := ih (done ++ [h]) _ W2 (by simp; omega)
    rw [List.append_assoc] at f W3
    refine ⟨o, ?_, W3⟩
    rw [List.foldl_cons, stepF_some e]
    simpa using f
theorem relaid_at (t : SetTable) {hs : Array Int} {wanted M : Nat} (hw : SetTable.sizeAbove wanted - 1 = M) (g : Good M) (hn : hs.size ≤ M) :
    ∃ t' order, t.relaid hs wanted = some (t', order) ∧ order.toList.Perm (List.range hs.size) ∧ Tab t' (order.toList.map fun i => hs.getD i 0) ∧ t'.mask = M ∧ t'.led = t.led := by
  obtain ⟨owner, f, W⟩ := lay_fold g hs.toList [] _ (Own.init M) (by simpa using hn)
  rw [List.nil_append] at f W
  have hr : t.relaid hs wanted = some (tabOf t M owner, ((liveOf M owner).map (·.2)).toArray) := by
    rw [relaid_eq, hw, layClean_eq, show (some (Array.replicate (M + 1) (none : Option Nat), 0)) = some (Array.replicate (M + 1) none, ([] : List Int).length) from rfl, f]
    rfl
  have ris := ris_live (fun j => owner.getD j none) (List.range (M + 1)) (show Ris _ by unfold Ris; exact List.pairwise_lt_range)
  have r1 : Ris ((liveOf M owner).map (·.1)) := ris.1
  have r2 : ∀ x ∈ (liveOf M owner).map (·.1), x ∈ List.range (M + 1) := ris.2
  have ml : ∀ {j k : Nat}, (j, k) ∈ liveOf M owner ↔ j ≤ M ∧ oAt owner j = some k := fun {j k} => mem_live W.sz
  have hlen : (liveOf M owner).length = hs.size := by
    obtain ⟨ps, p1, p2⟩ := W.ps
    have nd : ((liveOf M owner).map (·.1)).Nodup := (show List.Pairwise (fun a b : Nat => a < b) ((liveOf M owner).map (·.1)) from r1).imp fun h => Nat.ne_of_lt h
    have a := nat_nodup_len ((liveOf M owner).map (·.1)) ps nd fun x hx => by
      obtain ⟨⟨y, k⟩, hq, rfl⟩ := List.mem_map.mp hx
      exact p2 y (ml.1 hq).1 (by rw [(ml.1 hq).2]; exact fun z => nomatch z)
    have b := nat_nodup_len (List.range hs.size) ((liveOf M owner).map (·.2)) List.nodup_range fun k hk => by
      obtain ⟨j, b1, b2⟩ := W.all k (by simpa using hk)
      exact List.mem_map.mpr ⟨(j, k), ml.2 ⟨b1, b2⟩, rfl⟩
    rw [List.length_map] at a b
    rw [List.length_range] at b
    have : hs.toList.length = hs.size := Array.length_toList
    omega
  refine ⟨_, _, hr, perm_range hs.size _ (by simpa using hlen) fun k hk => ?_, ⟨r1, rfl, ?_, fun x hx => Nat.le_of_lt_succ (List.mem_range.mp (r2 x hx)), fun z hz => ?_⟩, rfl, rfl⟩
  · obtain ⟨j, b1, b2⟩ := W.all k (by simpa using hk)
    exact List.mem_map.mpr ⟨(j, k), ml.2 ⟨b1, b2⟩, rfl⟩
  · show ((liveOf M owner).map (·.1)).length = (((liveOf M owner).map (·.2)).map fun i => hs.getD i 0).length
    simp
  · have hz2 : z ∈ (liveOf M owner).map fun q => (q.1, hs.getD q.2 0) := by
      have e : ((liveOf M owner).map (·.1)).zip (((liveOf M owner).map (·.2)).map fun i => hs.getD i 0) = (liveOf M owner).map fun q => (q.1, hs.getD q.2 0) := by
        rw [List.map_map, List.zip_map']
        rfl
      rw [← e]
      exact hz
    obtain ⟨⟨j, k⟩, hq, rfl⟩ := List.mem_map.mp hz2
    obtain ⟨b1, b2⟩ := ml.1 hq
    obtain ⟨h0, K, a1, a2, a3⟩ := W.at_ j k b1 b2
    have e0 : hs.getD k 0 = h0 := by rw [Array.getD_eq_getD_getElem?, ← Array.getElem?_toList, a1]; rfl
    refine ⟨K, by show way M (hs.getD k 0) K = j; rw [e0]; exact a2, fun c hc => ?_⟩
    show way M (hs.getD k 0) c ∈ _
    rw [e0]
    cases q : oAt owner (way M h0 c) with
    | none => exact absurd q (a3 c hc)
    | some k2 =>
      have hm : way M h0 c ∈ (liveOf M owner).map (·.1) := List.mem_map.mpr ⟨(way M h0 c, k2), ml.2 ⟨way_in M h0 c, q⟩, rfl⟩
      have e1 : (((liveOf M owner).map (·.1)).zip (((liveOf M owner).map (·.2)).map fun i => hs.getD i 0)).map (·.1) = (liveOf M owner).map (·.1) := List.map_fst_zip (by simp)
      have hm2 : way M h0 c ∈ (((liveOf M owner).map (·.1)).zip (((liveOf M owner).map (·.2)).map fun i => hs.getD i 0)).map (·.1) := by rw [e1]; exact hm
      exact hm2
/-- the masks that come -/
def Msk (m : Nat) : Prop := m = 7 ∨ m = 31 ∨ m = 127 ∨ m = 511 ∨ m = 2047 ∨ m = 8191
theorem Msk.good {m : Nat} (h : Msk m) : Good m := by
  rcases h with rfl | rfl | rfl | rfl | rfl | rfl
  · exact good_pow 3
  · exact good_pow 5
  · exact good_pow 7
  · exact good_pow 9
  · exact good_pow 11
  · exact good_pow 13
theorem Msk.odd {m : Nat} (h : Msk m) : m % 2 = 1 := by rcases h with rfl | rfl | rfl | rfl | rfl | rfl <;> rfl
theorem Msk.le {m : Nat} (h : Msk m) : m ≤ 8191 := by rcases h with rfl | rfl | rfl | rfl | rfl | rfl <;> decide
/-- the table grows -/
theorem Msk.grow {m n : Nat} (h : Msk m) (a : n * 5 < m * 3) (b : (n + 1) * 5 ≥ m * 3) (c : n < 4096) : ∃ M, SetTable.sizeAbove (SetTable.grown (n + 1)) - 1 = M ∧ Msk M ∧ SetTable.sizeAbove (SetTable.grown (n + 1)) ≤ 8192 ∧ (n + 1) * 5 < M * 3 := by
  rcases h with rfl | rfl | rfl | rfl | rfl | rfl
  · obtain rfl : n = 4 := by omega
    exact ⟨31, by decide +kernel, .inr (.inl rfl), by decide +kernel, by decide⟩
  · obtain rfl : n = 18 := by omega
    exact ⟨127, by decide +kernel, .inr (.inr (.inl rfl)), by decide +kernel, by decide⟩
  · obtain rfl : n = 76 := by omega
    exact ⟨511, by decide +kernel, .inr (.inr (.inr (.inl rfl))), by decide +kernel, by decide⟩
  · obtain rfl : n = 306 := by omega
    exact ⟨2047, by decide +kernel, .inr (.inr (.inr (.inr (.inl rfl)))), by decide +kernel, by decide⟩
  · obtain rfl : n = 1228 := by omega
    exact ⟨8191, by decide +kernel, .inr (.inr (.inr (.inr (.inr rfl)))), by decide +kernel, by decide⟩
  · omega
end Tt

/-! Sets of nested tuples: what a search asks of its members; the search; adding. -/
namespace Tt
open PySem PySem.Spec PyProof.Rows L2

abbrev NKey := Addr × NestedKey
abbrev IsN (h : Heap) (k : NestedKey) (b : Addr) : Prop := NestedIs h k (.ref b) ∧ k.depth ≤ 8
section
variable {P : Program} {w : World} {A : Around} {E : Value → Shared → Prop} {s : Shared}
/-! ### what is asked of a member -/
/-- no class statement made it -/
def Plain (P : Program) (w : World) (n : Nat) (s : Shared) (v : Value) : Prop := ∀ (A : Around) (E : Value → Shared → Prop) (Q : Bool → Shared → Prop), Q false s → wpAny (model P w) A (ofAClassStatement n v) Q E s
/-- asked whether its hash is by value: some answer -/
def Hashy (P : Program) (w : World) (n : Nat) (s : Shared) (v : Value) : Prop := ∀ (A : Around) (E : Value → Shared → Prop) (Q : Bool → Shared → Prop), (∀ b, Q b s) → wpAny (model P w) A (hashByValue n v) Q E s
theorem Plain.tup {n : Nat} {a : Addr} {o : Obj} {vs : Array Value} {m : Nat} (ho : s.heap.get? a = some o) (hc : o.cls = .type "tuple") (hd : o.data = .seq vs m) (hq : ∀ v ∈ vs.toList, Plain P w n s v) : Plain P w (n + 1) s (.ref a) := fun A E Q h => by
  have hT : s.TypeIs (.ref a) "tuple" := ⟨o, ho, hc⟩
  unfold ofAClassStatement
  refine wpAny_bind (wpAny_typeOf hT ?_)
  dsimp only
  have e : (("tuple" : String) == "tuple") = true := by decide
  simp only [e, if_true, Bool.not_true, Bool.false_eq_true, if_false]
  try refine wpAny_bind (wpAny_pure ?_)
  try simp only [Bool.not_true, Bool.false_eq_true, if_false]
  show wpAny _ _ (seqItems? (.ref a) >>= _) _ _ s
  refine wpAny_bind (wpAny_seqItems ho hd ?_)
  dsimp only
  refine wpAny_bind ?_
  show wpAny _ _ (forIn vs _ _) _ _ s
  rw [← Array.forIn_toList]
  refine wpAny_forIn_list _ (fun rest r s' => r.1 = none ∧ s' = s ∧ ∀ v ∈ rest, Plain P w n s v) _ ?_ ?_ _ _ ⟨rfl, rfl, hq⟩
  · rintro v rest r s' ⟨hr, rfl, hall⟩
    refine wpAny_bind (hall v List.mem_cons_self _ _ _ ?_)
    simp only [Bool.false_eq_true, if_false]
    exact wpAny_pure ⟨rfl, rfl, fun u hu' => hall u (List.mem_cons_of_mem _ hu')⟩
  · rintro ⟨r1, r2⟩ s' ⟨hr, rfl, _⟩
    simp only at hr
    subst hr
    exact wpAny_pure h
theorem Hashy.tup {n : Nat} {a : Addr} {o : Obj} {vs : Array Value} {m : Nat} (ho : s.heap.get? a = some o) (hc : o.cls = .type "tuple") (hd : o.data = .seq vs m) (hq : ∀ v ∈ vs.toList, Hashy P w n s v) : Hashy P w (n + 1) s (.ref a) := fun A E Q h => by
  have hT : s.TypeIs (.ref a) "tuple" := ⟨o, ho, hc⟩
  unfold hashByValue
  refine wpAny_bind (wpAny_specialOf hT F.slot_tuple_hash.lookup ?_)
  show wpAny _ _ (seqItems? (.ref a) >>= _) _ _ s
  refine wpAny_bind (wpAny_seqItems ho hd ?_)
  refine wpAny_bind ?_
  show wpAny _ _ (forIn vs _ _) _ _ s
  rw [← Array.forIn_toList]
  refine wpAny_forIn_list _ (fun rest r s' => r.1 = none ∧ s' = s ∧ ∀ v ∈ rest, Hashy P w n s v) _ ?_ ?_ _ _ ⟨rfl, rfl, hq⟩
  · rintro v rest r s' ⟨hr, rfl, hall⟩
    refine wpAny_bind (hall v List.mem_cons_self _ _ _ fun b => ?_)
    cases b
    · simp only [Bool.not_false, if_true]
      refine wpAny_pure ?_
      dsimp only
      exact wpAny_pure (h _)
    · simp only [Bool.not_true, Bool.false_eq_true, if_false]
      exact wpAny_pure ⟨rfl, rfl, fun u hu' => hall u (List.mem_cons_of_mem _ hu')⟩
  · rintro ⟨r1, r2⟩ s' ⟨hr, rfl, _⟩
    simp only at hr
    subst hr
    exact wpAny_pure (h _)
mutual
theorem plain_key : ∀ (k : NestedKey) (v : Value) (n : Nat), NestedIs s.heap k v → k.depth ≤ n → Plain P w n s v ∧ Hashy P w n s v
  | .none, _, n, x, _ => by cases x; exact ⟨fun A E Q h => by cases n <;> exact wpAny_pure h, fun A E Q h => by cases n <;> exact wpAny_pure (h _)⟩
  | .num i, _, n, x, _ => by cases x <;> exact ⟨fun A E Q h => by cases n <;> exact wpAny_pure h, fun A E Q h => by cases n <;> exact wpAny_pure (h _)⟩
  | .text y, _, n, x, _ => by cases x; exact ⟨fun A E Q h => by cases n <;> exact wpAny_pure h, fun A E Q h => by cases n <;> exact wpAny_pure (h _)⟩
  | .tup ks, _, n, x, hn => by
    cases x with
    | tup hg hc hd hk =>
      simp only [NestedKey.depth] at hn
      cases n with
      | zero => omega
      | succ n => exact ⟨.tup hg hc hd fun v hv => (plain_keys ks _ n hk (by omega) v hv).1, .tup hg hc hd fun v hv => (plain_keys ks _ n hk (by omega) v hv).2⟩
theorem plain_keys : ∀ (ks : List NestedKey) (vs : List Value) (n : Nat), NestedAll s.heap ks vs → NestedKey.depthAll ks ≤ n → ∀ v ∈ vs, Plain P w n s v ∧ Hashy P w n s v
  | [], _, n, x, _, v, hv => by cases x; cases hv
  | k :: ks, _, n, x, hn, v, hv => by
    cases x with
    | cons x1 x2 =>
      simp only [NestedKey.depthAll] at hn
      rcases List.mem_cons.mp hv with e | hv
      · rw [e]; exact plain_key k _ n x1 (by omega)
      · exact plain_keys ks _ n x2 (by omega) v hv
end
/-- a search among such tuples is not seen -/
theorem seenN {k : NestedKey} {b : Addr} {Q : Bool → Shared → Prop} (hk : IsN s.heap k b) {ys : List Value} (hy : ∀ y ∈ ys, ∃ k' c, y = Value.ref c ∧ IsN s.heap k' c) (h : Q false s) :
    wpAny (model P w) A (searchCouldBeSeen (.ref b) ys) Q E s := by
  unfold searchCouldBeSeen
  refine wpAny_bind ?_
  refine wpAny_forIn_list _ (fun rest r s' => r.1 = none ∧ s' = s ∧ ∀ y ∈ rest, ∃ k' c, y = Value.ref c ∧ IsN s.heap k' c) _ ?_ ?_ _ _ ⟨rfl, rfl, hy⟩
  · rintro v rest r s' ⟨hr, rfl, hall⟩
    obtain ⟨k', c, rfl, hc⟩ := hall v List.mem_cons_self
    have more : ∀ y ∈ rest, ∃ k' c, y = Value.ref c ∧ IsN s'.heap k' c := fun u hu' => hall u (List.mem_cons_of_mem _ hu')
    have q1 := quiet_key (prog := P) (w := w) k _ 8 s' hk.1 hk.2
    have q2 := quiet_key (prog := P) (w := w) k' _ 8 s' hc.1 hc.2
    have p1 := (plain_key (P := P) (w := w) k _ 8 hk.1 hk.2).1
    have p2 := (plain_key (P := P) (w := w) k' _ 8 hc.1 hc.2).1
    dsimp only
    by_cases hv : (b == c || (carriedByValue (.ref b) && carriedByValue (.ref c))) = true
    · exact wp_if_pos hv (wpAny_pure ⟨rfl, rfl, more⟩)
    · refine wp_if_neg hv ?_
      refine wpAny_bind (q1 _ _ _ ?_)
      simp only [Bool.not_true, Bool.false_eq_true, if_false]
      refine wpAny_bind (q2 _ _ _ ?_)
      simp only [Bool.not_true, Bool.false_eq_true, if_false]
      refine wpAny_bind (p1 _ _ _ ?_)
      simp only [Bool.false_eq_true, if_false]
      refine wpAny_bind (p2 _ _ _ ?_)
      simp only [Bool.false_eq_true, if_false]
      exact wpAny_pure ⟨rfl, rfl, more⟩
  · rintro ⟨r1, r2⟩ s' ⟨hr, rfl, _⟩
    simp only at hr
    subst hr
    exact wpAny_pure h
end
end Tt

/-! Sets of nested tuples: the search, adding. -/
namespace Tt
open PySem PySem.Spec PyProof.Rows L2

def rowsN (w : World) (L : List NKey) : List (Int × Value) := L.map fun p => (p.2.hash w, Value.ref p.1)
structure SetN (w : World) (h : Heap) (a : Addr) (L : List NKey) (es : Array (Int × Value)) (ep : Nat) (t : SetTable) : Prop where
  ob : ∃ o, h.get? a = some o ∧ o.ExactSet ∧ o.data = .set es ep t
  rows : es.toList = rowsN w L
  tab : Tab t (L.map fun p => p.2.hash w)
  msk : Msk t.mask
  nd : (L.map (·.2)).Nodup
  key : ∀ p ∈ L, IsN h p.2 p.1
  led : w.params.followText "set-order" = true ∨ t.led = true
  room : L.length * 5 < t.mask * 3
  few : L.length < 4096
theorem rowsN_len {w : World} {L : List NKey} {es : Array (Int × Value)} (h : es.toList = rowsN w L) : es.size = L.length := by
  rw [← Array.length_toList, h]
  exact List.length_map ..
theorem rowsN_at {w : World} {L : List NKey} {es : Array (Int × Value)} (h : es.toList = rowsN w L) {i : Nat} {p : NKey} (e : L[i]? = some p) : es[i]? = some (p.2.hash w, Value.ref p.1) := by
  rw [← Array.getElem?_toList, h]
  unfold rowsN
  rw [List.getElem?_map, e]
  rfl
section
variable {P : Program} {w : World} {A : Around} {E : Value → Shared → Prop} {s : Shared} {a : Addr} {L : List NKey} {es : Array (Int × Value)} {ep : Nat} {t : SetTable}
theorem tab_fits {hs : List Int} (T : Tab t hs) {n : Nat} (h1 : hs.length = n) (h2 : n ≤ t.mask) : t.fits n = true := by
  have e : t.place.size = n := by rw [← Array.length_toList, T.sz, h1]
  unfold SetTable.fits SetTable.fill
  rw [T.dm, Bool.and_eq_true, beq_iff_eq, decide_eq_true_eq]
  exact ⟨e, by show t.place.size + 0 ≤ t.mask; omega⟩
theorem SetN.fits (R : SetN w s.heap a L es ep t) : t.fits es.size = true := by
  have := R.room
  exact tab_fits R.tab (by rw [List.length_map, rowsN_len R.rows]) (by rw [rowsN_len R.rows]; omega)
theorem SetN.gw (R : SetN w s.heap a L es ep t) : ¬ t.gaveWay = true := by
  unfold SetTable.gaveWay
  rw [R.msk.odd]
  decide
theorem nth_dm (m : Nat) : ∀ (n : Nat) (p : SetTable.Probe), p.dummy = none → (nth m p n).dummy = none
  | 0, _, h => h
  | n + 1, p, h => nth_dm m n (adv m p) (by unfold adv; split <;> exact h)
/-- where a key's way stands -/
abbrev stpS (m : Nat) (h : Int) (c : Nat) : SetTable.Probe := nth m (runAt m (SetTable.bits h % (m + 1)) (SetTable.bits h)) c
theorem stpS_add (m : Nat) (h : Int) (c q : Nat) : nth m (stpS m h c) q = stpS m h (c + q) := (nth_add m c _ q).symm
theorem searchN_from (R : SetN w s.heap a L es ep t) {x : Addr} {k : NestedKey} (hx : IsN s.heap k x) (hu : A.units + 8 < cLine) {K : Nat} (hKf : K < 10 * SetTable.turns t.mask)
    (hK : way t.mask (k.hash w) K ∉ t.place.toList) (hKb : ∀ c, c < K → way t.mask (k.hash w) c ∈ t.place.toList) {Q : SetFound → Shared → Prop}
    (hin : k ∈ L.map (·.2) → Q (.there none) s) (hout : k ∉ L.map (·.2) → Q (.free (way t.mask (k.hash w) K) false) s) :
    ∀ (f c : Nat) (stand : Option SetTable.Probe), stand.getD (t.probeStart (k.hash w)) = stpS t.mask (k.hash w) c → c ≤ K → K - c < f →
      (∀ (i : Nat) p, L[i]? = some p → p.2 = k → ∃ c', c ≤ c' ∧ c' < K ∧ t.place.toList[i]? = some (way t.mask (k.hash w) c')) →
      wpAny (model P w) A (setSearchFrom a (.ref x) (k.hash w) true f stand) Q E s := by
  intro f
  induction f with
  | zero => intro c stand _ _ hf _; exact absurd hf (Nat.not_lt_zero _)
  | succ f ih =>
    intro c stand hst hc hf hre
    obtain ⟨o, ho, hex, hd⟩ := R.ob
    rw [setSearchFrom_succ]
    refine wpAny_bind (wpAny_setState_of ho hd R.fits ?_)
    dsimp only
    refine wp_if_neg R.gw ?_
    try refine wpAny_bind (wpAny_pure ?_)
    have wj : ∀ q, (nth t.mask (stpS t.mask (k.hash w) c) q).j = way t.mask (k.hash w) (c + q) := fun q => congrArg SetTable.Probe.j (stpS_add t.mask (k.hash w) c q)
    have ha : ∀ (i : Nat) p, L[i]? = some p → (es[i]?.map (·.1)).getD 0 = p.2.hash w := fun i p hp => by rw [rowsN_at R.rows hp]; rfl
    have spec := go_spec t R.tab.ris R.tab.dm (fun i => (es[i]?.map (·.1)).getD 0) (k.hash w) (10 * SetTable.turns t.mask) (K - c) (stpS t.mask (k.hash w) c) (nth_dm _ _ _ rfl) (by omega)
      (fun q hq => by rw [wj]; exact hKb (c + q) (by omega)) (by rw [wj, show c + (K - c) = K by omega]; exact hK)
    rcases spec with ⟨q, i, hq, hi, hh, hno, hpr⟩ | ⟨hno, hpr⟩
    · rw [wj] at hi
      have hpr' : t.probe (fun i => (es[i]?.map (·.1)).getD 0) (k.hash w) (stand.getD (t.probeStart (k.hash w))) = some (.candidate (way t.mask (k.hash w) (c + q)) i (stpS t.mask (k.hash w) (c + (q + 1)))) := by
        rw [hst, ← stpS_add, ← wj q]
        exact hpr
      rw [hpr']
      dsimp only
      have hil : i < L.length := by
        have h1 : i < t.place.toList.length := (List.getElem?_eq_some_iff.mp hi).1
        rw [R.tab.sz, List.length_map] at h1
        exact h1
      obtain ⟨p, hp⟩ : ∃ p, L[i]? = some p := ⟨_, List.getElem?_eq_getElem hil⟩
      have hmem : p ∈ L := List.mem_of_getElem? hp
      have hsl : t.slot (way t.mask (k.hash w) (c + q)) = .live i := slot_live R.tab.ris hi
      have rest : wpAny (model P w) A (searchRest a (.ref x) (k.hash w) true f es t (way t.mask (k.hash w) (c + q)) i (stpS t.mask (k.hash w) (c + (q + 1)))) Q E s := by
        unfold searchRest
        rw [rowsN_at R.rows hp]
        dsimp only
        refine wpAny_bind (wpAny_holding ((nestedKind P w).eqBool hu (R.key p hmem) hx ?_))
        refine wpAny_bind (wpAny_setState_of ho hd R.fits ?_)
        dsimp only
        by_cases hkk : p.2 = k
        · refine wp_if_pos (by simp [hkk]) (wpAny_pure (hin (List.mem_map.mpr ⟨p, hmem, hkk⟩)))
        · refine wp_if_neg (by simp [hkk]) ?_
          try refine wpAny_bind (wpAny_pure ?_)
          rw [sameMem]
          dsimp only
          simp only [if_true, hsl, rowsN_at R.rows hp]
          refine wpAny_bind (wpAny_isSame_ref_self (wpAny_bind (wpAny_pure ?_)))
          simp only [if_true]
          refine wp_if_neg (by simp [hkk]) ?_
          refine ih (c + (q + 1)) _ rfl (by omega) (by omega) fun i0 p0 h0 hk0 => ?_
          obtain ⟨c', a1, a2, a3⟩ := hre i0 p0 h0 hk0
          refine ⟨c', ?_, a2, a3⟩
          rcases Nat.lt_trichotomy c' (c + q) with z | z | z
          · refine absurd ((ha i0 p0 h0).trans (congrArg (NestedKey.hash w) hk0)) (hno (c' - c) i0 (by omega) ?_)
            rw [wj, show c + (c' - c) = c' by omega]
            exact a3
          · exfalso
            rw [z] at a3
            have s0 := slot_live R.tab.ris a3
            rw [hsl] at s0
            injection s0 with s0
            rw [← s0, hp] at h0
            exact hkk ((congrArg Prod.snd (Option.some.inj h0)).trans hk0)
          · omega
      by_cases hl : t.led = true
      · refine wp_if_neg (by simp [hl]) ?_
        try refine wpAny_bind (wpAny_pure ?_)
        exact rest
      · refine wp_if_pos (by simp [hl]) ?_
        refine wpAny_bind (seenN hx (fun y hy => ?_) ?_)
        · obtain ⟨e, he, rfl⟩ := List.mem_map.mp hy
          have he2 : e ∈ es.toList := by
            have : e ∈ es ∧ e.1 = k.hash w := by simpa using he
            simpa using this.1
          rw [R.rows] at he2
          obtain ⟨p2, hp2, rfl⟩ := List.mem_map.mp he2
          exact ⟨p2.2, p2.1, rfl, R.key p2 hp2⟩
        · refine wp_if_neg (by decide) ?_
          try refine wpAny_bind (wpAny_pure ?_)
          exact rest
    · have hpr' : t.probe (fun i => (es[i]?.map (·.1)).getD 0) (k.hash w) (stand.getD (t.probeStart (k.hash w))) = some (.empty (way t.mask (k.hash w) K) none) := by
        rw [hst, show way t.mask (k.hash w) K = (nth t.mask (stpS t.mask (k.hash w) c) (K - c)).j by rw [wj, show c + (K - c) = K by omega]]
        exact hpr
      rw [hpr']
      dsimp only
      refine wpAny_pure (hout fun hm => ?_)
      obtain ⟨p0, h0, hk0⟩ := List.mem_map.mp hm
      obtain ⟨i0, h00⟩ := List.getElem?_of_mem h0
      obtain ⟨c', a1, a2, a3⟩ := hre i0 p0 h00 hk0
      exact hno (c' - c) i0 (by omega) (by rw [wj, show c + (c' - c) = c' by omega]; exact a3) ((ha i0 p0 h00).trans (congrArg (NestedKey.hash w) hk0))
theorem searchN (R : SetN w s.heap a L es ep t) {x : Addr} {k : NestedKey} (hx : IsN s.heap k x) (hu : A.units + 8 < cLine) {Q : SetFound → Shared → Prop}
    (hin : k ∈ L.map (·.2) → Q (.there none) s)
    (hout : ∀ K, k ∉ L.map (·.2) → way t.mask (k.hash w) K ∉ t.place.toList → (∀ c, c < K → way t.mask (k.hash w) c ∈ t.place.toList) → Q (.free (way t.mask (k.hash w) K) false) s) :
    wpAny (model P w) A (setSearch a (.ref x) (k.hash w) true) Q E s := by
  have hroom := R.room
  obtain ⟨K, hKf, hK, hKb⟩ := R.tab.first R.msk.good (by rw [List.length_map]; omega) (k.hash w)
  have hbig : K < 100000 := by
    have h1 := R.msk.le
    unfold SetTable.turns at hKf
    omega
  unfold setSearch
  refine searchN_from R hx hu hKf hK hKb hin (fun hn => hout K hn hK hKb) 100000 0 none rfl (Nat.zero_le _) (by omega) fun i p hp hk => ?_
  have hi : (L.map fun p => p.2.hash w)[i]? = some (k.hash w) := by rw [List.getElem?_map, hp, ← hk]; rfl
  have hil : i < t.place.toList.length := by
    rw [R.tab.sz]
    exact (List.getElem?_eq_some_iff.mp hi).1
  have hj := List.getElem?_eq_getElem hil
  obtain ⟨c, hc, e⟩ := R.tab.before hK hi hj
  exact ⟨c, Nat.zero_le _, hc, by rw [hj, e]⟩
/-! ### adding -/
theorem isN_same {h h' : Heap} {k : NestedKey} {b : Addr} {o : Obj} (x : IsN h k b) (ho : h.get? a = some o) (hd : o.data = .set es ep t) (hs : Heap.SameBut a h h') : IsN h' k b :=
  ⟨NestedIs.at (fun c o' vs n e hc => (hs.2 c fun z => by
    subst z
    rw [ho] at e
    cases e
    rw [hd] at hc
    cases hc).trans e) _ _ x.1, x.2⟩
theorem fm_congr {α β : Type} {f g : α → Option β} : ∀ {l : List α}, (∀ x ∈ l, f x = g x) → l.filterMap f = l.filterMap g
  | [], _ => rfl
  | x :: l, h => by
    rw [List.filterMap_cons, List.filterMap_cons, h x List.mem_cons_self, fm_congr fun y hy => h y (List.mem_cons_of_mem _ hy)]
theorem orderN (order : Array Nat) (hr : es.toList = rowsN w L) (hp : order.toList.Perm (List.range L.length)) :
    ∃ L2, (order.filterMap (es[·]?)).toList = rowsN w L2 ∧ L2.Perm L ∧ (L2.map fun p => p.2.hash w) = order.toList.map fun i => (es.map (·.1)).getD i 0 := by
  have hsz := rowsN_len hr
  have lt : ∀ i ∈ order.toList, i < L.length := fun i hi => List.mem_range.mp (hp.mem_iff.mp hi)
  refine ⟨order.toList.filterMap fun i => L[i]?, ?_, ?_, ?_⟩
  · rw [Array.toList_filterMap]
    unfold rowsN
    rw [List.map_filterMap]
    refine fm_congr fun i hi => ?_
    rw [rowsN_at hr (List.getElem?_eq_getElem (lt i hi)), List.getElem?_eq_getElem (lt i hi)]
    rfl
  · have h2 : (List.range L.length).filterMap (fun i => L[i]?) = L := by
      have key2 : ∀ n, n ≤ L.length → (List.range n).filterMap (fun i => L[i]?) = L.take n := by
        intro n
        induction n with
        | zero => intro _; rfl
        | succ n ih =>
          intro hn
          rw [List.range_succ, List.filterMap_append, ih (Nat.le_of_lt hn), List.take_add_one, List.getElem?_eq_getElem (show n < L.length from hn)]
          simp [List.getElem?_eq_getElem (show n < L.length from hn)]
      rw [key2 _ (Nat.le_refl _), List.take_length]
    have h3 := hp.filterMap fun i => L[i]?
    rw [h2] at h3
    exact h3
  · rw [List.map_filterMap, ← List.filterMap_eq_map]
    refine fm_congr fun i hi => ?_
    rw [List.getElem?_eq_getElem (lt i hi)]
    show some ((L[i]'(lt i hi)).2.hash w) = some ((es.map (·.1)).getD i 0)
    rw [Array.getD_eq_getD_getElem?, Array.getElem?_map, rowsN_at hr (List.getElem?_eq_getElem (lt i hi))]
    rfl
theorem relayN {o : Obj} (ho : s.heap.get? a = some o) (hex : o.ExactSet) (hd : o.data = .set es ep t) (hrows : es.toList = rowsN w L) {hs : List Int} (T0 : Tab t hs) (hhs : hs.length = L.length) (hfl : L.length ≤ t.mask)
    (nd : (L.map (·.2)).Nodup) (key : ∀ p ∈ L, IsN s.heap p.2 p.1) (ld : w.params.followText "set-order" = true ∨ t.led = true) (few : L.length < 4096) {wanted M : Nat}
    (hw : SetTable.sizeAbove wanted - 1 = M) (hM : Msk M) (hw2 : SetTable.sizeAbove wanted ≤ 8192) (hn : L.length * 5 < M * 3) {Q : Unit → Shared → Prop}
    (hQ : ∀ h' L' es' ep' t', Heap.SameBut a s.heap h' → SetN w h' a L' es' ep' t' → L'.Perm L → Q () { s with heap := h' }) : wpAny (model P w) A (setRelay a wanted) Q E s := by
  have hsl := rowsN_len hrows
  obtain ⟨t', order, e, hp, T, em, el⟩ := relaid_at t (hs := es.map (·.1)) (wanted := wanted) hw hM.good (by rw [Array.size_map, hsl]; omega)
  rw [Array.size_map, hsl] at hp
  obtain ⟨L2, r1, r2, r3⟩ := orderN order hrows hp
  rw [← r3] at T
  have hs2 : (order.filterMap (es[·]?)).size = es.size := by rw [rowsN_len r1, r2.length_eq, hsl]
  rw [setRelay_eq]
  refine wpAny_bind (wpAny_setState_of ho hd (tab_fits T0 (by rw [hhs, hsl]) (by rw [hsl]; exact hfl)) ?_)
  dsimp only
  refine wp_if_neg (by rw [sizeLine_eq]; omega) ?_
  try refine wpAny_bind (wpAny_pure ?_)
  rw [e]
  dsimp only
  refine wpAny_bind ?_
  refine wp_if_neg (by rw [hs2]; simp) ?_
  try refine wpAny_bind (wpAny_pure ?_)
  refine wpAny_pure ?_
  dsimp only
  refine wpAny_storeSet_of ho hd ?_ (by rw [hs2, hsl, sizeLine_eq]; omega)
  have sb : Heap.SameBut a s.heap (s.heap.update a (Obj.putSet (order.filterMap (es[·]?)) t')) := Heap.SameBut.update ..
  refine hQ _ L2 (order.filterMap (es[·]?)) (ep + 1) t' sb ⟨⟨_, store_at ho hd, ⟨hex.1, hex.2.1, hex.2.2⟩, rfl⟩, r1, T, by rw [em]; exact hM, (r2.map (·.2)).nodup_iff.mpr nd, fun p hpm => isN_same (key p (r2.mem_iff.mp hpm)) ho hd sb, by rw [el]; exact ld, by rw [r2.length_eq, em]; exact hn, by rw [r2.length_eq]; exact few⟩ r2
theorem addNK (R : SetN w s.heap a L es ep t) {x : Addr} {k : NestedKey} (hx : IsN s.heap k x) (hu : A.units + 8 < cLine) (hfew : k ∉ L.map (·.2) → L.length + 1 < 4096) {Q : Bool → Shared → Prop}
    (hQ : ∀ b h' L' es' ep' t', Heap.SameBut a s.heap h' → SetN w h' a L' es' ep' t' → (k ∈ L.map (·.2) → L' = L) → (k ∉ L.map (·.2) → L'.Perm ((x, k) :: L)) → Q b { s with heap := h' }) :
    wpAny (model P w) A (setAddHashed a (.ref x) (k.hash w)) Q E s := by
  obtain ⟨o, ho, hex, hd⟩ := R.ob
  have hsl := rowsN_len R.rows
  have hroom := R.room
  unfold setAddHashed
  refine wpAny_holding ?_
  rw [show (100000 : Nat) = 99999 + 1 from rfl, setAddHashedIn_succ]
  refine wpAny_bind (wpAny_setState_of ho hd R.fits ?_)
  dsimp only
  refine wp_if_neg (by simp [byScan, Value.scannable]) ?_
  try refine wpAny_bind (wpAny_pure ?_)
  refine wpAny_bind (searchN R hx hu (fun hm => ?_) fun K hm hK hb => ?_)
  · dsimp only
    exact wpAny_pure (hQ false s.heap L es ep t (Heap.SameBut.refl a s.heap) R (fun _ => rfl) fun z => absurd hm z)
  · dsimp only
    refine wpAny_bind (wpAny_setState_of ho hd R.fits ?_)
    dsimp only
    obtain ⟨p, q0, q2, q1, q3, q4, q5, q9⟩ := R.tab.put hK hb
    rw [List.length_map] at q2 q9
    generalize hpt : t.put (way t.mask (k.hash w) K) = pt at q1 q3 q4 q5 q9 ⊢
    obtain ⟨t1, p'⟩ := pt
    dsimp only at q1 q3 q4 q5 q9 ⊢
    subst q1
    have pm := put_perm L p' (x, k)
    have hin : (SetTable.insertAt es p' (k.hash w, Value.ref x)).toList = rowsN w (L.take p' ++ (x, k) :: L.drop p') := by
      rw [SetTable.toList_insertAt, R.rows]
      unfold rowsN
      rw [List.map_append, List.map_cons, List.map_take, List.map_drop]
    have hhs : (L.take p' ++ (x, k) :: L.drop p').map (fun p => p.2.hash w) = (L.map fun p => p.2.hash w).take p' ++ k.hash w :: (L.map fun p => p.2.hash w).drop p' := by
      rw [List.map_append, List.map_cons, List.map_take, List.map_drop]
    rw [← hhs] at q3
    have hlen : (L.take p' ++ (x, k) :: L.drop p').length = L.length + 1 := pm.length_eq
    have nd1 : ((L.take p' ++ (x, k) :: L.drop p').map (·.2)).Nodup := (pm.map (·.2)).nodup_iff.mpr (List.nodup_cons.mpr ⟨hm, R.nd⟩)
    have hf1 := hfew hm
    generalize SetTable.insertAt es p' (k.hash w, Value.ref x) = es1 at hin ⊢
    generalize L.take p' ++ (x, k) :: L.drop p' = L1 at pm hlen q3 nd1 hin
    have hes : es1.size = L.length + 1 := by rw [rowsN_len hin, hlen]
    -- behind the mark whether all hash by value
    have go : ∀ t2 : SetTable, t2.mask = t1.mask → t2.led = t1.led → t2.place = t1.place → t2.dummies = t1.dummies → wpAny (model P w) A (do
        storeSet a es1 t2
        if (!false && t2.tooFull) = true then setRelay a (SetTable.grown (es.size + 1))
        pure true) Q E s := fun t2 m1 m2 m3 m4 => by
      have T2 : Tab t2 (L1.map fun p => p.2.hash w) := ⟨by rw [m3]; exact q3.ris, by rw [m4]; exact q3.dm, by rw [m3]; exact q3.sz, by rw [m3, m1]; exact q3.bd, by rw [m3, m1]; exact q3.ch⟩
      have fl2 : t2.fill = L.length + 1 := by
        show t2.place.size + t2.dummies.size = _
        rw [m3, m4]
        exact q9
      refine wpAny_bind (wpAny_storeSet_of ho hd ?_ (by rw [hes, sizeLine_eq]; omega))
      have sb : Heap.SameBut a s.heap (s.heap.update a (Obj.putSet es1 t2)) := Heap.SameBut.update ..
      have ho1 := store_at (es' := es1) (t' := t2) ho hd
      generalize s.heap.update a (Obj.putSet es1 t2) = h1 at sb ho1 ⊢
      have key1 : ∀ p ∈ L1, IsN h1 p.2 p.1 := fun p hp => by
        rcases List.mem_cons.mp (pm.mem_iff.mp hp) with e | hp
        · rw [e]; exact isN_same hx ho hd sb
        · exact isN_same (R.key p hp) ho hd sb
      have ld1 : w.params.followText "set-order" = true ∨ t2.led = true := by rw [m2, q5]; exact R.led
      have msk2 : Msk t2.mask := by rw [m1, q4]; exact R.msk
      by_cases hf : t2.tooFull = true
      · first
          | (refine wpAny_bind ?_; refine wp_if_pos (by simp [hf]) ?_)
          | (refine wp_if_pos (by simp [hf]) ?_; refine wpAny_bind ?_)
        have hfull : (L.length + 1) * 5 ≥ t2.mask * 3 := by
          have h := hf
          unfold SetTable.tooFull at h
          rw [decide_eq_true_eq, fl2] at h
          exact h
        obtain ⟨M, g1, g2, g3, g4⟩ := msk2.grow (n := L.length) (by rw [m1, q4]; exact hroom) hfull (by omega)
        rw [hsl]
        refine relayN (s := { s with heap := h1 }) ho1 ⟨hex.1, hex.2.1, hex.2.2⟩ rfl hin T2 (List.length_map ..) (by rw [hlen, m1, q4]; have := R.msk; rcases this with e | e | e | e | e | e <;> omega) nd1 key1 ld1 (by rw [hlen]; exact hf1) g1 g2 g3 (by rw [hlen]; exact g4) ?_
        intro h2 L2 es2 ep2 t3 sb2 R2 pm2
        exact wpAny_pure (hQ true h2 L2 es2 ep2 t3 (sb.trans sb2) R2 (fun z => absurd z hm) fun _ => pm2.trans pm)
      · first
          | refine wp_if_neg (by simp [hf]) ?_
          | (refine wpAny_bind ?_; refine wp_if_neg (by simp [hf]) ?_; refine wpAny_pure ?_)
        refine wpAny_pure (hQ true h1 L1 es1 (ep + 1) t2 sb ⟨⟨_, ho1, ⟨hex.1, hex.2.1, hex.2.2⟩, rfl⟩, hin, T2, msk2, nd1, key1, ld1, ?_, by rw [hlen]; exact hf1⟩ (fun z => absurd z hm) fun _ => pm)
        have h := hf
        unfold SetTable.tooFull at h
        rw [decide_eq_true_eq, fl2] at h
        rw [hlen]
        omega
    have pk := (plain_key (P := P) (w := w) k _ 8 hx.1 hx.2).2
    by_cases hp1 : t1.plain = true
    · have fin : ∀ b : Bool, wpAny (model P w) A (do
          let t := if b = true then t1 else { t1 with plain := false }
          storeSet a es1 t
          if (!false && t.tooFull) = true then setRelay a (SetTable.grown (es.size + 1))
          pure true) Q E s := fun b => by
        cases b
        · exact go { t1 with plain := false } rfl rfl rfl rfl
        · exact go t1 rfl rfl rfl rfl
      first
        | (refine wpAny_bind ?_; refine wp_if_pos hp1 ?_; exact pk _ _ _ fun b => fin b)
        | exact wp_if_pos hp1 (wpAny_bind (pk _ _ _ fun b => fin b))
    · first
        | (refine wpAny_bind ?_; refine wp_if_neg hp1 ?_; exact wpAny_pure (go t1 rfl rfl rfl rfl))
        | exact wp_if_neg hp1 (wpAny_bind (wpAny_pure (go t1 rfl rfl rfl rfl)))
end
end Tt

/-! sorted(set(a list of nested tuples)). -/
namespace Tt
open PySem PySem.Spec PyProof.Rows L2 PySem.W
theorem isN_keep {h h' : Heap} {k : NestedKey} {b : Addr} (x : IsN h k b) (kp : ∀ c o, h.get? c = some o → h'.get? c = some o) : IsN h' k b := ⟨NestedIs.at (fun c o vs n e _ => kp c o e) _ _ x.1, x.2⟩
theorem SetN.keep {w : World} {h h' : Heap} {a : Addr} {L : List NKey} {es : Array (Int × Value)} {ep : Nat} {t : SetTable} (R : SetN w h a L es ep t) (ha : ∀ o, h.get? a = some o → h'.get? a = some o) (hk : ∀ p ∈ L, IsN h' p.2 p.1) : SetN w h' a L es ep t := by
  obtain ⟨o, ho, r⟩ := R.ob
  exact { R with ob := ⟨o, ha o ho, r⟩, key := hk }
/-- what a set has got of the first keys -/
def GotN (w : World) (h : Heap) (S : Addr) (ks : List NKey) (i : Nat) : Prop := ∃ L es ep t, SetN w h S L es ep t ∧ (∀ p ∈ L, p ∈ ks.take i) ∧ ∀ p ∈ ks.take i, p.2 ∈ L.map (·.2)
theorem GotN.keep {w : World} {h h' : Heap} {S : Addr} {ks : List NKey} {i : Nat} (g : GotN w h S ks i) (ha : ∀ o, h.get? S = some o → h'.get? S = some o) (hk : ∀ p ∈ ks, IsN h' p.2 p.1) : GotN w h' S ks i := by
  obtain ⟨L, es, ep, t, R, a, b⟩ := g
  exact ⟨L, es, ep, t, R.keep ha fun p m => hk p (List.mem_of_mem_take (a p m)), a, b⟩
section
variable {P : Program} {w : World} {A : Around} {E : Value → Shared → Prop} {s : Shared}
theorem gotN_fresh {h : Heap} {a : Addr} {ks : List NKey} (ho : h.get? a = some { cls := .type "set", dict := none, data := .set #[] 0 (.fresh 0 0 (!w.params.followText "set-order")) }) : GotN w h a ks 0 :=
  ⟨[], #[], 0, _, ⟨⟨_, ho, ⟨rfl, rfl, rfl⟩, rfl⟩, rfl, ⟨List.Pairwise.nil, rfl, rfl, fun x hx => (by cases hx), fun z hz => (by cases hz)⟩, .inl rfl, List.nodup_nil, fun p hp => (by cases hp), by
      show _ ∨ (!w.params.followText "set-order") = true
      cases w.params.followText "set-order"
      · exact .inr rfl
      · exact .inl rfl, by show 0 * 5 < 7 * 3; decide, by show 0 < 4096; decide⟩, fun p hp => (by cases hp), fun p hp => (by simp at hp)⟩
theorem gotN_add {a x : Addr} {k : NestedKey} {ks : List NKey} {i : Nat} (g : GotN w s.heap a ks i) (hp : ks[i]? = some (x, k)) (hx : IsN s.heap k x) (hu : A.units + 8 < cLine) (hU : ∀ l : List NestedKey, l.Nodup → (∀ k ∈ l, k ∈ ks.map (·.2)) → l.length < 4096)
    {Q : Bool → Shared → Prop} (hQ : ∀ b h', Heap.SameBut a s.heap h' → GotN w h' a ks (i + 1) → Q b { s with heap := h' }) : wpAny (model P w) A (setAddHashed a (.ref x) (k.hash w)) Q E s := by
  obtain ⟨L, es, ep, t, R, g1, g2⟩ := g
  have sub : ∀ p ∈ L, p.2 ∈ ks.map (·.2) := fun p m => List.mem_map.mpr ⟨p, List.mem_of_mem_take (g1 p m), rfl⟩
  have tk : ks.take (i + 1) = ks.take i ++ [(x, k)] := by rw [List.take_add_one, hp]; rfl
  refine addNK R hx hu (fun n => ?_) fun b h' L' es' ep' t' sb R' c1 c2 => hQ b h' sb ⟨L', es', ep', t', R', ?_⟩
  · have := hU (k :: L.map (·.2)) (List.nodup_cons.mpr ⟨n, R.nd⟩) fun j hj => by
      rcases List.mem_cons.mp hj with rfl | hj
      · exact List.mem_map.mpr ⟨_, List.mem_of_getElem? hp, rfl⟩
      · obtain ⟨p, m, rfl⟩ := List.mem_map.mp hj
        exact sub p m
    rw [List.length_cons, List.length_map] at this
    exact this
  · rw [tk]
    rcases Classical.em (k ∈ L.map (·.2)) with c | c
    · rw [c1 c]
      exact ⟨fun p m => List.mem_append_left _ (g1 p m), fun p m => by
        rcases List.mem_append.mp m with m | m
        · exact g2 p m
        · rw [List.mem_singleton.mp m]; exact c⟩
    · have pm := c2 c
      refine ⟨fun p m => ?_, fun p m => ((pm.map (·.2)).mem_iff).mpr ?_⟩
      · rcases List.mem_cons.mp (pm.mem_iff.mp m) with rfl | m
        · exact List.mem_append_right _ List.mem_cons_self
        · exact List.mem_append_left _ (g1 p m)
      · rcases List.mem_append.mp m with m | m
        · exact List.mem_cons_of_mem _ (g2 p m)
        · rw [List.mem_singleton.mp m]; exact List.mem_cons_self
theorem setN_update {I : Addr} {fp wr : List Addr} {G : Array GenState → Array GenState → Prop} {n : Nat} {Pv : Nat → Value → Prop} {St : Nat → Shared → Prop} {R : Result → Shared → Prop}
    (W : WalksS P w A.in1 I fp wr G n Pv St) (S : Addr) (hSf : S ∉ fp) (ks : List NKey) (hn : n = ks.length) (hU : ∀ l : List NestedKey, l.Nodup → (∀ k ∈ l, k ∈ ks.map (·.2)) → l.length < 4096) (hval : ∀ i v, Pv i v → ∃ p, ks[i]? = some p ∧ v = .ref p.1)
    (h0 : Heap) (hk : ∀ p ∈ ks, IsN h0 p.2 p.1) (hu : A.in1.units + 8 < cLine) (hS0 : h0.get? S = none) (hw0 : ∀ b ∈ wr, h0.get? b = none) :
    ∀ (k i : Nat) (s : Shared), n - i = k → i ≤ n → St i s → (∀ b o, h0.get? b = some o → s.heap.get? b = some o) → GotN w s.heap S ks i →
      (∀ s', Moved (S :: wr) G s s' → GotN w s'.heap S ks n → (∀ b o, h0.get? b = some o → s'.heap.get? b = some o) → R (.ok (.ret .none)) s') →
      codeAny (model P w) A (.builtin "set.update.loop" ⟨[.ref S, .ref I], []⟩) R s := by
  have hSw : S ∉ wr := fun h => hSf (W.sub _ h)
  have hsub : ∀ b ∈ wr, b ∈ S :: wr := fun b hb => List.mem_cons_of_mem _ hb
  have keepM : ∀ {s s' : Shared}, Moved wr G s s' → (∀ b o, h0.get? b = some o → s.heap.get? b = some o) → ∀ b o, h0.get? b = some o → s'.heap.get? b = some o := fun hm hkp b o e =>
    hm.heap b o (fun hb => by rw [hw0 b hb] at e; cases e) (hkp b o e)
  intro k
  induction k with
  | zero =>
    intro i s hk' hi hst hkp hS hR
    have hin : i = n := by omega
    subst hin
    refine codeAny_builtin F.entry_set_update_loop ?_
    rw [Around.under_plainId F.plain_set_update_loop _]
    show wpAny _ A.in1 (pyNext (.ref I) >>= _) _ _ s
    refine wpAny_bind (W.done s _ _ hst fun s' hm => ?_)
    show wpAny _ A.in1 (ret Value.none) _ _ s'
    have hkp' := keepM hm hkp
    exact wpAny_pure (hR s' (hm.mono hsub) (hS.keep (fun o e => hm.heap S o hSw e) fun p m => isN_keep (hk p m) hkp') hkp')
  | succ k ih =>
    intro i s hk' hi hst hkp hS hR
    have hlt : i < n := by omega
    refine codeAny_builtin F.entry_set_update_loop ?_
    rw [Around.under_plainId F.plain_set_update_loop _]
    show wpAny _ A.in1 (pyNext (.ref I) >>= _) _ _ s
    refine wpAny_bind (W.item i s _ _ hlt hst fun v s' hP hst' hm => ?_)
    obtain ⟨p, hp, rfl⟩ := hval i v hP
    have hkp' := keepM hm hkp
    have hS' : GotN w s'.heap S ks i := hS.keep (fun o e => hm.heap S o hSw e) fun p m => isN_keep (hk p m) hkp'
    have hx : IsN s'.heap p.2 p.1 := isN_keep (hk p (List.mem_of_getElem? hp)) hkp'
    show wpAny _ A.in1 (holding [Value.ref p.1] (setAdd S (.ref p.1)) >>= _) _ _ s'
    refine wpAny_bind (wpAny_holding ?_)
    unfold setAdd
    refine wpAny_holding ?_
    refine wpAny_bind ((nestedKind P w).pyHash hu hx ?_)
    refine gotN_add (s := { s' with toks := s'.toks + p.2.draws }) hS' hp hx hu hU fun b h' hsb hS2 => ?_
    have hkp2 : ∀ b o, h0.get? b = some o → h'.get? b = some o := fun b o e => (hsb.2 b (fun z => by rw [z, hS0] at e; cases e)).trans (hkp' b o e)
    refine wpAny_pure ⟨plainId_quiet F.plain_set_update_loop _, ih (i + 1) _ (by omega) hlt (W.frame _ s' _ _ hst' (Nat.le_add_right _ _) fun b hb o e => ?_) hkp2 hS2 fun s'' hm'' hS'' hkp'' => ?_⟩
    · rw [hsb.2 b (fun h : b = S => hSf (by rw [← h]; exact hb))]; exact e
    · refine hR s'' (Moved.trans W.gtrans ((hm.mono hsub).then_heap (Nat.le_add_right _ _) fun b o hb e => ?_) hm'') hS'' hkp''
      rw [hsb.2 b (fun h : b = S => hb (by rw [h]; exact List.mem_cons_self))]; exact e
set_option maxRecDepth 100000 in
set_option maxHeartbeats 3200000 in
theorem call_setN {l : Addr} {items : Array Value} (ks : List NKey) {Q : Value → Shared → Prop} (hh : A.handled = none) (hl : s.heap.IsList l items) (hit : items.toList = ks.map fun p => Value.ref p.1)
    (hk : ∀ p ∈ ks, IsN s.heap p.2 p.1) (hu : A.units + 64 < cLine) (hU : ∀ l : List NestedKey, l.Nodup → (∀ k ∈ l, k ∈ ks.map (·.2)) → l.length < 4096)
    (h : ∀ (h' : Heap) (tk : Nat), GotN w h' s.heap.objs.size ks ks.length → (∀ b o, s.heap.get? b = some o → h'.get? b = some o) → Q (.ref s.heap.objs.size) { s with heap := h', toks := tk }) :
    wpAny (model P w) A (call (.type "set") [.ref l]) Q E s := by
  have hisz : items.size = ks.length := by
    rw [← Array.length_toList, hit, List.length_map]
  obtain ⟨c, tl, hmro⟩ := F.called_set.mro
  have hmade := F.called_set.made
  have hsub := F.called_set.sub
  refine wpAny_call (codeAny_of_tree ?_)
  show wpAny _ _ (callAny (.type "set") _) _ _ _
  refine wpAny_pure ⟨Code.quiet_builtin _ (by decide +kernel), codeAny_builtin F.entry_type_call ?_⟩
  rw [Around.under_plain (weight_type_call_type "set" [.ref l] []) rfl]
  have h1 := F.called_set.notType
  have h2 := F.called_set.canCreate
  have hct := F.typeCall_set_1 (.ref l)
  repeat (any_goals (first | assumption | wp_step))

  refine codeAny_mono (code_set_led1 (.ref l) (E := E) (Q₁ := fun obj s₁ => obj = .ref s.heap.objs.size ∧ s₁ = { s with heap := s.heap.push { cls := .type "set", dict := none, data := .set #[] 0 (.fresh 0 0 (!w.params.followText "set-order")) } }) ⟨rfl, rfl⟩) fun r s₁ hr => ?_
  cases r with
  | error e => exact hr
  | ok fl =>
    cases fl with
    | ret obj =>
      obtain ⟨rfl, rfl⟩ := hr
      have hS : (s.heap.push { cls := .type "set", dict := none, data := .set #[] 0 (.fresh 0 0 (!w.params.followText "set-order")) }).get? s.heap.objs.size = some { cls := .type "set", dict := none, data := .set #[] 0 (.fresh 0 0 (!w.params.followText "set-order")) } := Heap.get?_push_size _ rfl
      have hT : Shared.TypeIs { s with heap := s.heap.push { cls := .type "set", dict := none, data := .set #[] 0 (.fresh 0 0 (!w.params.followText "set-order")) } } (.ref s.heap.objs.size) "set" := ⟨_, hS, rfl⟩
      have hli := F.called_set.init.lookup
      have hbi := F.called_set.init.bind (.ref s.heap.objs.size)
      repeat (any_goals (first | assumption | wp_step))

      refine codeAny_mono (codeAny_call_builtin (R := wants (fun r s₂ => r = .none ∧ ∃ h' tk, s₂ = { s with heap := h', toks := tk } ∧ GotN w h' s.heap.objs.size ks ks.length ∧
          (∀ b o, s.heap.get? b = some o → h'.get? b = some o)) E) F.called_set.init.plain F.entry_set_init (check_set_init_1 hT ?_)) fun r₂ s₂ hr₂ => ?_
      · obtain ⟨ol, hol, hcl, nl, hdl⟩ := hl
        obtain ⟨ocls, odict, odata, oslots⟩ := ol
        simp only at hcl hdl
        subst hcl; subst hdl
        have hol' : (s.heap.push { cls := .type "set", dict := none, data := .set #[] 0 (.fresh 0 0 (!w.params.followText "set-order")) }).get? l = some { cls := .type "list", dict := odict, data := .seq items nl, slots := oslots } := Heap.get?_push_of_some _ hol
        have hsls := F.sub_list_set
        have hslf := F.sub_list_frozenset
        have hne : (Value.type "list" == Value.type "dict") = false := by decide
        have hl1 : (s.heap.push { cls := .type "set", dict := none, data := .set #[] 0 (.fresh 0 0 (!w.params.followText "set-order")) }).IsList l items := ⟨_, hol', rfl, nl, rfl⟩
        unfold Builtin.«set.__init__» noKeywords Builtin.Frozenset.updateFrom
        generalize hPI : pyIter = PI
        wp_walk
        subst hPI

        refine wpAny_pyIter_list hl1 ?_
        refine wpAny_bind (wpAny_runValue ?_)
        have hlS : l < s.heap.objs.size := Heap.lt_size hol
        have hh3 : A.in1.in1.in1.handled = none := by simp [hh]
        have hz1 : (s.heap.push { cls := .type "set", dict := none, data := .set #[] 0 (.fresh 0 0 (!w.params.followText "set-order")) }).objs.size = s.heap.objs.size + 1 := Heap.size_push ..
        have hneI : l ≠ (s.heap.push { cls := .type "set", dict := none, data := .set #[] 0 (.fresh 0 0 (!w.params.followText "set-order")) }).objs.size := by
          rw [Heap.size_push]; exact Nat.ne_of_lt (Nat.lt_succ_of_lt hlS)
        have hSf : s.heap.objs.size ∉ [(s.heap.push { cls := .type "set", dict := none, data := .set #[] 0 (.fresh 0 0 (!w.params.followText "set-order")) }).objs.size, l] := by
          rw [Heap.size_push]; simp only [List.mem_cons, List.mem_singleton, List.not_mem_nil, or_false, not_or]
          exact ⟨Nat.ne_of_lt (Nat.lt_succ_self _), Nat.ne_of_gt hlS⟩
        have hval : ∀ (i : Nat) (v : Value), items[i]? = some v → ∃ p, ks[i]? = some p ∧ v = .ref p.1 := fun i v hv => by
          have q : items.toList[i]? = some v := by rw [Array.getElem?_toList]; exact hv
          rw [hit, List.getElem?_map] at q
          cases hq : ks[i]? with
          | none => rw [hq] at q; cases q
          | some p =>
            rw [hq] at q
            exact ⟨p, rfl, (Option.some.inj q).symm⟩
        have none_of : ∀ b, s.heap.objs.size ≤ b → s.heap.get? b = none := fun b hb => by
          cases q : s.heap.get? b with
          | none => rfl
          | some o => exact absurd (Nat.lt_of_lt_of_le (Heap.lt_size q) hb) (Nat.lt_irrefl _)
        refine setN_update ((Walks.list hh3 _ l hneI items).toS) s.heap.objs.size
          hSf ks hisz hU hval s.heap hk (by simp only [Around.in1_units]; omega) (none_of _ (Nat.le_refl _)) (fun b hb => none_of b (by
            rw [List.mem_singleton.mp hb, Heap.size_push]
            exact Nat.le_succ _)) (items.size - 0) 0 _ (by omega) (Nat.zero_le _)
          ⟨⟨_, Heap.get?_push_size _ rfl, rfl, rfl⟩, (hl1.push _)⟩ (fun b o e => Heap.get?_push_of_some _ (Heap.get?_push_of_some _ e)) ?hS0 ?hR
        case hS0 =>
          have hget : ((s.heap.push { cls := .type "set", dict := none, data := .set #[] 0 (.fresh 0 0 (!w.params.followText "set-order")) }).push { cls := .type "list_iterator", data := .fields #[.ref l, .int 0 0] }).get? s.heap.objs.size
              = some { cls := .type "set", dict := none, data := .set #[] 0 (.fresh 0 0 (!w.params.followText "set-order")) } := Heap.get?_push_of_some _ hS
          exact gotN_fresh hget
        case hR =>
          intro s' hm hS' hkp
          obtain ⟨h', g2, d', tk', os'⟩ := s'
          have eg : g2 = s.gens := hm.gens
          have ed : d' = s.drawn := hm.drawn
          have eo : os' = s.os := hm.os
          subst eg; subst ed; subst eo
          show wpAny _ _ _ _ _ _
          refine wpAny_pure ?_
          show wpAny _ _ (ret Value.none) _ _ _
          rw [hisz] at hS'
          exact wpAny_pure ⟨rfl, h', tk', rfl, hS', hkp⟩

      · cases r₂ with
        | error e => exact hr₂
        | ok fl₂ =>
          cases fl₂ with
          | ret r =>
            obtain ⟨rfl, h', tk, rfl, hS', hk'⟩ := hr₂
            repeat (any_goals (first | assumption | wp_step))
            exact h _ _ hS' hk'
          | _ => exact hr₂.elim
    | _ => exact hr.elim
end
end Tt

/-! sorted(set(a list of nested tuples)), told of data. -/
namespace Tt
open PySem PySem.Spec PyProof.Rows L2 PySem.W
/-- the set at a, without the tuples themselves -/
def SetN0 (w : World) (h : Heap) (a : Addr) (L : List NKey) : Prop := ∃ es ep t, (∃ o, h.get? a = some o ∧ o.ExactSet ∧ o.data = .set es ep t) ∧ es.toList = rowsN w L ∧ Tab t (L.map fun p => p.2.hash w) ∧ Msk t.mask ∧ (L.map (·.2)).Nodup ∧
  (w.params.followText "set-order" = true ∨ t.led = true) ∧ L.length * 5 < t.mask * 3 ∧ L.length < 4096
def SetNO (w : World) (a : Addr) (L : List NKey) : HO := .ext fun h => SetN0 w h a L
theorem setNO_new {P : Program} {w : World} {H : Hp} {h : Heap} {a : Addr} {L : List NKey} {es : Array (Int × Value)} {ep : Nat} {t : SetTable} (R : SetN w h a L es ep t) : ObjOk P w H h a (SetNO w a L) := by
  have R0 : SetN0 w h a L := ⟨es, ep, t, R.ob, R.rows, R.tab, R.msk, R.nd, R.led, R.room, R.few⟩
  obtain ⟨o, ho, r⟩ := R.ob
  refine ⟨R0, ⟨o, ho⟩, fun h1 h2 p k => ?_⟩
  obtain ⟨es', ep', t', ⟨o', ho', r'⟩, q⟩ := p
  exact ⟨es', ep', t', ⟨o', k o' ho', r'⟩, q⟩
theorem each_perm {β : Type} {R : Value → β → Prop} {vs ws : List Value} (p : vs.Perm ws) : ∀ {ks : List β}, EachIs R ws ks → ∃ js : List β, EachIs R vs js ∧ js.Perm ks := by
  induction p with
  | nil => intro ks h; cases h; exact ⟨[], .nil, .nil⟩
  | cons x p ih =>
    intro ks h
    cases h with
    | cons k r =>
      obtain ⟨js, a, b⟩ := ih r
      exact ⟨_ :: js, .cons k a, b.cons _⟩
  | swap x y l =>
    intro ks h
    cases h with
    | cons k r =>
      cases r with
      | cons k2 r => exact ⟨_, .cons k2 (.cons k r), .swap _ _ _⟩
  | trans p q ih1 ih2 =>
    intro ks h
    obtain ⟨js, a, b⟩ := ih2 h
    obtain ⟨js2, a2, b2⟩ := ih1 a
    exact ⟨js2, a2, b2.trans b⟩
theorem refs_vals : ∀ {ks : List NKey} {us : List Value}, Vals (ks.map fun p => V.ref p.1) us → us = ks.map fun p => Value.ref p.1
  | [], _, .nil => rfl
  | p :: ks, _, .cons r t => by
    cases r
    rw [refs_vals t]
    rfl
section
variable {β : Type} {enc : β → D} {dec : β → List NestedKey} {I : Hp}
/-- data of keys: where the tuples stand -/
theorem keys_of (he : ∀ b, enc b = (NestedKey.tup (dec b)).data) (hd : ∀ b, (NestedKey.tup (dec b)).depth ≤ 8) : ∀ {xs : List V} {bs : List β}, DqAll I xs (bs.map enc) → ∃ ks : List NKey, xs = ks.map (fun p => V.ref p.1) ∧ ks.map (·.2) = bs.map (fun b => NestedKey.tup (dec b)) ∧ ∀ p ∈ ks, KeyAt I p.1 p.2
  | _, [], h => by cases h; exact ⟨[], rfl, rfl, fun p hp => by cases hp⟩
  | _, b :: bs, h => by
    rw [List.map_cons] at h
    cases h with
    | cons h t =>
      obtain ⟨ks, e1, e2, e3⟩ := keys_of he hd t
      rw [he b] at h
      have h : Dq I _ (.tuple (NestedKey.datas (dec b))) := h
      cases h with
      | tup ha ta =>
        rename_i a xs
        exact ⟨(a, .tup (dec b)) :: ks, by rw [e1]; rfl, by rw [List.map_cons, e2]; rfl, fun p hp => by
          rcases List.mem_cons.mp hp with rfl | hp
          · exact ⟨.tup ha ta, hd b⟩
          · exact e3 p hp⟩
theorem dq_keys (he : ∀ b, enc b = (NestedKey.tup (dec b)).data) : ∀ {L : List NKey} {bs : List β}, L.map (·.2) = bs.map (fun b => NestedKey.tup (dec b)) → (∀ p ∈ L, KeyAt I p.1 p.2) → DqAll I (L.map fun p => V.ref p.1) (bs.map enc)
  | [], [], _, _ => .nil
  | [], _ :: _, e, _ => by cases e
  | _ :: _, [], e, _ => by cases e
  | p :: L, b :: bs, e, h => by
    rw [List.map_cons, List.map_cons] at e
    injection e with e1 e2
    refine .cons ?_ (dq_keys he e2 fun q hq => h q (List.mem_cons_of_mem _ hq))
    rw [he b, ← e1]
    exact (h p List.mem_cons_self).1
theorem pick_keys {bs : List β} : ∀ {ls : List NestedKey}, (∀ k ∈ ls, k ∈ bs.map fun b => NestedKey.tup (dec b)) → ∃ js : List β, ls = js.map (fun b => NestedKey.tup (dec b)) ∧ ∀ b ∈ js, b ∈ bs
  | [], _ => ⟨[], rfl, fun b hb => by cases hb⟩
  | k :: ls, h => by
    obtain ⟨js, e, m⟩ := pick_keys fun j hj => h j (List.mem_cons_of_mem _ hj)
    obtain ⟨b, hb, rfl⟩ := List.mem_map.mp (h k List.mem_cons_self)
    exact ⟨b :: js, by rw [e]; rfl, fun c hc => by
      rcases List.mem_cons.mp hc with rfl | hc
      · exact hb
      · exact m c hc⟩
end
section
variable {X : Cx}
theorem cr_setN (hc : X.calm = true) (hu : X.A.units + 64 < cLine) : CallR X (.type "set") (fun xs H Q => ∃ (l : Addr) (ks : List NKey), xs = [V.ref l] ∧ SqL X.K H l (ks.map fun p => V.ref p.1) ∧ (∀ p ∈ ks, KeyAt H p.1 p.2) ∧ (∀ l : List NestedKey, l.Nodup → (∀ k ∈ l, k ∈ ks.map (·.2)) → l.length < 4096) ∧
    ∀ a L, H a = none → (∀ p ∈ L, p ∈ ks) → (∀ p ∈ ks, p.2 ∈ L.map (·.2)) → (L.map (·.2)).Nodup → Q (.ref a) (upd H a (SetNO X.w a L))) := by
  intro pins s σ H xs us Q Iv r h
  obtain ⟨l, ks, rfl, hl, hk, hU, q⟩ := h
  rw [Vals.ref1 r]
  obtain ⟨its, rv, pl, hz⟩ := Iv.list hl
  have hn : H s.heap.objs.size = none := Iv.hok.fresh (Nat.le_refl _)
  refine call_setN (P := X.prog) (w := X.w) ks (Iv.ok.hd hc) pl.isList (by simpa using refs_vals rv) (fun p m => key_n (P := X.prog) (w := X.w) Iv.hok (hk p m)) hu hU fun h' tk g kp => ?_
  obtain ⟨L, es, ep, t, R, g1, g2⟩ := g
  rw [List.take_length] at g1 g2
  exact ⟨.ref s.heap.objs.size, upd H s.heap.objs.size (SetNO X.w s.heap.objs.size L), Iv.laid (t' := tk) kp (Nat.le_refl _) (setNO_new R), rfl, q _ L hn g1 g2 R.nd⟩
variable {β : Type} {enc : β → D}
theorem cr_sortedNS (hc : X.calm = true) (hu : X.A.units + 64 < cLine) (al : ∀ a b, alike (enc a) (enc b) = true) (inj : ∀ a b, PyData.eqv (enc a) (enc b) = true → a = b) : CallR X (.builtin "sorted") (fun vs H Q => ∃ (I : Hp) (bs : List β) (a : Addr) (L : List NKey), vs = [V.ref a] ∧ H a = some (SetNO X.w a L) ∧ Sub I H ∧ DqAll I (L.map fun p => V.ref p.1) (bs.map enc) ∧ Sorts enc bs ∧
    ∀ p ys, H p = none → DqAll I ys ((bs.mergeSort (dataLe false enc)).map enc) → Q (.ref p) (upd H p (.lst ys))) := by
  intro pins s σ H vs us Q Iv r h
  obtain ⟨I, bs, a, L, rfl, ha, sb, t0, S, q⟩ := h
  obtain ⟨es, ep, t, ⟨o, ho, hex, hd⟩, hrows, T, hm, nd, hl, hroom, hfew⟩ : SetN0 X.w s.heap a L := (Iv.hok a _ ha).1
  rw [Vals.ref1 r]
  have hsl := rowsN_len hrows
  have hes : es.toList.map (·.2) = L.map fun p => Value.ref p.1 := by
    rw [hrows]
    unfold rowsN
    rw [List.map_map]
    rfl
  have vl : Vals (L.map fun p => V.ref p.1) (L.map fun p => Value.ref p.1) := by
    clear t0 hes hsl hrows T nd hfew hroom ha
    induction L with
    | nil => exact .nil
    | cons p L ih => exact .cons rfl ih
  have e0 : EachIs (fun v b => Sb I v (enc b)) (L.map fun p => Value.ref p.1) bs := each_unmap (α := Unit) enc (each_sb vl t0)
  refine sorted_collS (enc := enc) (R := fun v b => Sb I v (enc b)) (P := fun vs js => EachIs (fun v b => Sb I v (enc b)) vs js ∧ js.Perm bs)
    (fun {E' Q'} k => collect_set (A := X.A.in1) (Iv.ok.hd hc) ⟨o, ho, hex.1, hd⟩ (tab_fits T (by rw [List.length_map, hsl]) (by rw [hsl]; omega)) (by rw [hsl]; unfold scanBound; omega) T.ris hl fun s1 vs k1 hz g1 o1 pm => ?_) (fun vs js ⟨h1, h2⟩ => ?_) fun s1 h' vs js out n ⟨h1, h2⟩ kp hz hg hos hl2 eo hg2 => ?_
  · rw [hes] at pm
    obtain ⟨js, a1, a2⟩ := each_perm pm e0
    exact k s1 vs js k1 hz g1 o1 ⟨a1, a2⟩
  · refine ⟨h1, h1.mono fun v b ⟨x, r, hq⟩ => Dp.reads Iv (enc b) x v (Dq.dp (Dq.sub sb hq)) r, AllAlike.of al, ?_, by rw [h2.length_eq]; exact S.ln, fun b hb => by have := S.dp b (h2.mem_iff.mp hb); omega⟩
    rcases S.so with z | z
    · exact .inl fun d hd => z d ((h2.map enc).mem_iff.mp hd)
    · exact .inr fun d hd => z d ((h2.map enc).mem_iff.mp hd)
  · have hn : H s1.heap.objs.size = none := Iv.hok.fresh hz
    rw [perm_sort al inj h2] at eo
    obtain ⟨ys, r1, r2⟩ := sb_each (each_map (R := Sb I) enc eo)
    have J : Inv X pins σ (upd H s1.heap.objs.size (.lst ys)) { s with heap := h', gens := s1.gens, drawn := s1.drawn, toks := s1.toks } :=
      Iv.call (ch := []) (Un.laid kp hz hn) (Iv.hok.laid kp hz ⟨by rw [r1.length, hl2, h2.length_eq]; exact S.ln, out, n, r1, hg2⟩) (by rw [hg]; exact Iv.bare) (fun _ z => nomatch z)
    have e : ({ s1 with heap := h' } : Shared) = { s with heap := h', gens := s1.gens, drawn := s1.drawn, toks := s1.toks } := by
      cases s1
      cases s
      cases hos
      rfl
    rw [e]
    exact ⟨.ref s1.heap.objs.size, _, J, rfl, q _ ys hn r2⟩
end
section
variable {X : Cx} {m : Bool} {ρ ρ1 : List Sl} {W : Wx} {pos p p2 q2 : Pos} {a : Expr} {Q : Bool → D → List Sl → Prop} {β : Type} {enc : β → D} {dec : β → List NestedKey}
/-- sorted(set(x)), x a list of nested tuples -/
theorem em_sortedSetN (he : ∀ b, enc b = (NestedKey.tup (dec b)).data) (hdp : ∀ b, (NestedKey.tup (dec b)).depth ≤ 8) (hinj : ∀ a b, dec a = dec b → a = b) (al : ∀ a b, alike (enc a) (enc b) = true) (inj : ∀ a b, PyData.eqv (enc a) (enc b) = true → a = b)
    (hc : X.calm = true) (hu : X.A.units + 64 < cLine) (hms : X.mg "sorted" = none) (hset : X.mg "set" = none)
    (h : EM m X a ρ W fun _ d ρ1 => ∃ bs : List β, d = .list (bs.map enc) ∧ (∀ l : List β, l.Nodup → (∀ b ∈ l, b ∈ bs) → l.length < 4096 ∧ Sorts enc l) ∧ ∀ l : List β, l.Nodup → (∀ b, b ∈ l ↔ b ∈ bs) → Q true (.list ((l.mergeSort (dataLe false enc)).map enc)) ρ1)
    (hg : Gl X "sorted" := by rfl) (hg2 : Gl X "set" := by rfl)
    (h1 : starEach [Expr.Call (.Name "set" p2) [a] [] q2] X.env = (false, eval (Expr.Call (.Name "set" p2) [a] [] q2) X.env) :: starEach [] X.env := by rfl) (h2 : (backTo pos (starEach [] X.env)).any (·.1) = false := by rfl)
    (h3 : starEach [a] X.env = (false, eval a X.env) :: starEach [] X.env := by rfl) (h4 : (backTo q2 (starEach [] X.env)).any (·.1) = false := by rfl) :
    EM m X (.Call (.Name "sorted" p) [.Call (.Name "set" p2) [a] [] q2] [] pos) ρ W Q := fun σ I H ok xk R f => by
  refine ⟨_, pe_callB (cr_sortedNS hc hu al inj) hg hms PyProof.Rows.boot_sorted (pa_cons (pe_callTy (cr_setN hc hu) hg2 hset PyProof.Rows.boot_set (pa_cons pe_w pa_nil h3) (by decide) (by decide) h3 h4) pa_nil h1) (by decide) (by decide) h1 h2, ?_⟩
  refine h σ I H ok xk _ fun v o d ρ1 I1 H1 g1 r1 q1 => ?_
  obtain ⟨bs, rfl, hS, q⟩ := q1
  obtain ⟨J, gJ, rJ⟩ := r1.data g1 ok
  obtain ⟨l, xs, rfl, hl, t⟩ := rJ.lst
  obtain ⟨ks, e1, e2, e3⟩ := keys_of he hdp t
  subst e1
  have sJ := (gJ.env ok).sub
  have k := Res.fin (Q1 := fun o z => Q o z ρ1) ok gJ f fun _ _ h => h
  have nodup_of : ∀ js : List β, (js.map fun b => NestedKey.tup (dec b)).Nodup → js.Nodup := fun js n => List.Pairwise.of_map _ (fun _ _ ne e => ne (by rw [e])) n
  refine ⟨l, ks, rfl, SqL.of (sJ.lst hl), fun p m => ⟨Dq.sub sJ (e3 p m).1, (e3 p m).2⟩, fun ls n m => ?_, fun a L n1 m1 m2 nd => ?_⟩
  · rw [e2] at m
    obtain ⟨js, rfl, mj⟩ := pick_keys m
    rw [List.length_map]
    exact (hS js (nodup_of js n) mj).1
  · obtain ⟨js, ej, mj⟩ := pick_keys (bs := bs) (dec := dec) (ls := L.map (·.2)) fun j hj => by
      obtain ⟨p, hp, rfl⟩ := List.mem_map.mp hj
      rw [← e2]
      exact List.mem_map.mpr ⟨p, m1 p hp, rfl⟩
    have nj : js.Nodup := nodup_of js (by rw [← ej]; exact nd)
    have gr1 := Grow.dark (o := SetNO X.w a L) sJ n1
    refine ⟨J, js, a, L, rfl, upd_same, gr1.sub, dq_keys he ej fun p hp => e3 p (m1 p hp), (hS js nj mj).2, fun b ys n2 ty => ?_⟩
    have nb : H1 b = none := by
      by_cases e : b = a
      · subst e; exact n1
      · rw [upd_ne e] at n2; exact n2
    have gr2 := Grow.dark (o := .lst ys) gr1.sub n2
    refine k _ true _ J _ (gr1.trans gr2) ⟨b, ys, _, rfl, rfl, nb, sJ.nn nb, upd_same, ty⟩ (q js nj fun c => ⟨mj c, fun hc => ?_⟩)
    have h3 : NestedKey.tup (dec c) ∈ ks.map (·.2) := by rw [e2]; exact List.mem_map.mpr ⟨c, hc, rfl⟩
    obtain ⟨p, hp, ep⟩ := List.mem_map.mp h3
    have h4 := m2 p hp
    rw [ej, ep] at h4
    obtain ⟨c', hc', ec⟩ := List.mem_map.mp h4
    injection ec with ec
    rw [← hinj c' c ec]
    exact hc'
end
end Tt

/-! x < y of alike data; found.update([(key, value), ..]), the keys nested tuples. -/
namespace Tt
open PySem PySem.Spec PyProof.Rows L2 PySem.W
section
variable {X : Cx}
theorem op_ltD (hu : X.A.units + 64 < cLine) : OpR X (compareOp .Lt) (fun x y H Q => ∃ d e, Dp X.K H x d ∧ Dp X.K H y e ∧ alike d e = true ∧ d ≠ .none ∧ d.depth ≤ 32 ∧ Q (.bl (dataLt d e)) H) := by
  intro pins s σ H x y v u Q I rx ry h
  obtain ⟨d, e, hd, he, al, nn, dp, q⟩ := h
  obtain ⟨as, r1⟩ := Dp.reads I d x v hd rx
  obtain ⟨bs, r2⟩ := Dp.reads I e y u he ry
  have hm : min d.depth e.depth ≤ d.depth := Nat.min_le_left _ _
  exact rcLt_alike d e X.A s v u as bs r1 r2 al nn (by omega) _ _ _ _ ⟨.bl _, H, I, rfl, q⟩
theorem fd_ltD {d e : D} {Q : Bool → D → Prop} (hu : X.A.units + 64 < cLine) (n1 : nd d = true) (n2 : nd e = true) (al : alike d e = true) (nn : d ≠ .none) (dp : d.depth ≤ 32) (q : Q false (.bool (dataLt d e))) : FD X (compareOp .Lt) d e Q := fun I H v u s rv ru R k =>
  ⟨_, op_ltD hu, d, e, rv.dpH s n1, ru.dpH s n2, al, nn, dp, k.val s .mkBl q⟩
/-! ### a method of an object told by more than the hand layer's types -/
def tBMT (T : String) (ty : V → Hp → Prop) (r : V → List V → Hp → VK → Prop) (to : TE) (t : TA) : TE := fun σ H Q => to σ H fun x H1 => ty x H1 ∧ t σ H1 fun xs H2 => r x xs H2 Q
variable {o e : Expr} {es : List Expr} {to : TE} {t : TA} {name : Str} {apos cpos : Pos} {T id : String} {r : V → List V → Hp → VK → Prop} {ty : V → Hp → Prop}
theorem pe_bmT (pa : PlainAttrs T) (slot : Slot T name id) (hty : typeOf (.builtin id) = pure (.type "method_descriptor")) (hm : MtM X id r) (ho : PE X o to) (ha : PA X (e :: es) t)
    (hT : ∀ {pins : List (Addr × Obj)} {σ : L2.St} {H : Hp} {s : Shared} {x : V} {v : Value}, Inv X pins σ H s → RelV x v → ty x H → s.TypeIs v T ∧ ∀ a, v = .ref a → ∃ ob, s.heap.get? a = some ob ∧ ob.dict = none)
    (hbase : attributeBase o name X.env (eval o X.env) = eval o X.env := by rfl)
    (hfew : ((backTo cpos (starEach (e :: es) X.env)).all (fun x => !x.1) && (backToKw cpos (keywordEach [] X.env)).all (fun x => x.1.isSome)
      && decide ((e :: es).length + ([] : List Keyword).length + (if ([] : List Keyword).isEmpty then 0 else 1) < 30)) = true := by rfl)
    (hline : (apos.endLine == cpos.line) = true := by rfl) (hs : starEach (e :: es) X.env = (false, eval e X.env) :: starEach es X.env := by rfl) (hplain : (backTo cpos (starEach es X.env)).any (·.1) = false := by rfl) :
    PE X (.Call (.Attribute o name apos) (e :: es) [] cpos) (tBMT T ty r to t) := by
  refine ⟨fun pins s σ H Q I h => ?_⟩
  refine wpAny_Call_method_late hbase hfew hline rfl (thn (ho.run pins s σ H _ I h) fun v s1 ⟨x, H1, I1, r1, ty, q1⟩ => ?_)
  obtain ⟨h1, h2⟩ := hT I1 r1 ty
  refine ⟨T, id, pa, slot, hty, h1, h2, ?_⟩
  have hA := ha.run cpos pins s1 σ H1 _ I1 q1
  rw [hs] at hA ⊢
  refine Calls.callWith_builtin (by show (false || (backTo cpos (starEach es X.env)).any (·.1)) = false; rw [hplain] <;> rfl) (Calls.evalArgs_plain ?_)
  exact thn hA fun us s2 ⟨vs, H2, I2, r2, q2⟩ => hm pins s2 σ H2 x vs v us Q I2 r1 r2 q2
/-! ### update -/
def storeAllN (xs : List EN) (Ts : List (Addr × EN)) : List EN := Ts.foldl (fun xs t => storeN xs t.2.1 t.2.2.1 t.2.2.2) xs
theorem storeAllN_len : ∀ (Ts : List (Addr × EN)) (xs : List EN), (storeAllN xs Ts).length ≤ xs.length + Ts.length
  | [], xs => Nat.le_refl _
  | t :: Ts, xs => by
    have h1 := storeAllN_len Ts (storeN xs t.2.1 t.2.2.1 t.2.2.2)
    have h2 : (storeN xs t.2.1 t.2.2.1 t.2.2.2).length ≤ xs.length + 1 := ptb_length
    rw [List.length_cons]
    show (storeAllN (storeN xs t.2.1 t.2.2.1 t.2.2.2) Ts).length ≤ _
    omega
/-- a pair, as it stands in the heap -/
def RowAt (h : Heap) (t : Addr × EN) (r : Addr × NestedKey × Addr × Value) : Prop := r.1 = t.1 ∧ r.2.1 = t.2.1 ∧ r.2.2.1 = t.2.2.1 ∧ RelV t.2.2.2 r.2.2.2 ∧ h.IsTuple t.1 #[.ref t.2.2.1, r.2.2.2]
theorem storeAll_paired {h : Heap} : ∀ {Ts : List (Addr × EN)} {rs : List (Addr × NestedKey × Addr × Value)}, Paired (RowAt h) Ts rs → ∀ {xs : List EN} {ys : List (NestedKey × Addr × Value)}, Paired RelY xs ys → Paired RelY (storeAllN xs Ts) (storedAllH ys (rs.map (·.2)))
  | _, _, .nil, _, _, p => p
  | _, _, .cons (a := t) (b := r) q qs, xs, ys, p => by
    obtain ⟨_, e2, e3, e4, _⟩ := q
    show Paired RelY (storeAllN (storeN xs t.2.1 t.2.2.1 t.2.2.2) _) (storedAllH (storedH ys r.2.1 r.2.2.1 r.2.2.2) _)
    rw [e2, e3]
    exact storeAll_paired qs (storeN_paired p _ _ e4)
theorem rows_at {P : Program} {w : World} {H : Hp} {h : Heap} (ok : HOk P w H h) : ∀ {Ts : List (Addr × EN)}, (∀ t ∈ Ts, H t.1 = some (.tup [.ref t.2.2.1, t.2.2.2])) → ∃ rs, Paired (RowAt h) Ts rs
  | [], _ => ⟨[], .nil⟩
  | t :: Ts, hT => by
    obtain ⟨rs, p⟩ := rows_at ok fun q hq => hT q (List.mem_cons_of_mem _ hq)
    obtain ⟨_, its, rv, ob, e, hc, n, hd⟩ := ok _ _ (hT t List.mem_cons_self)
    cases rv with
    | cons r1 rt =>
      cases rt with
      | cons r2 rt =>
        cases rt
        cases r1
        rename_i u
        exact ⟨(t.1, t.2.1, t.2.2.1, u) :: rs, .cons ⟨rfl, rfl, rfl, r2, ob, e, hc, n, hd⟩ p⟩
theorem refs_rows {h : Heap} : ∀ {Ts : List (Addr × EN)} {rs : List (Addr × NestedKey × Addr × Value)} {its : List Value}, Paired (RowAt h) Ts rs → Vals (Ts.map fun t => V.ref t.1) its → its = rs.map fun r => Value.ref r.1
  | _, _, _, .nil, v => by cases v; rfl
  | _, _, _, .cons q qs, v => by
    cases v with
    | cons r t =>
      cases r
      rw [refs_rows qs t, List.map_cons, q.1]
theorem rows_get {h : Heap} {Ts : List (Addr × EN)} {rs : List (Addr × NestedKey × Addr × Value)} (p : Paired (RowAt h) Ts rs) : ∀ r ∈ rs, ∃ t ∈ Ts, RowAt h t r := by
  induction p with
  | nil => intro r m; cases m
  | cons q _ ih =>
    intro r m
    rcases List.mem_cons.mp m with rfl | m
    · exact ⟨_, List.mem_cons_self, q⟩
    · obtain ⟨t, mt, x⟩ := ih r m
      exact ⟨t, List.mem_cons_of_mem _ mt, x⟩
def rUpdN (w : World) : V → List V → Hp → VK → Prop := fun x vs H Q => ∃ a l xs, ∃ Ts : List (Addr × EN), x = .ref a ∧ vs = [.ref l] ∧ H a = some (ndO w a xs) ∧ NK H xs ∧ H l = some (.lst (Ts.map fun t => V.ref t.1)) ∧
  (∀ t ∈ Ts, H t.1 = some (.tup [.ref t.2.2.1, t.2.2.2]) ∧ KeyAt H t.2.2.1 t.2.1) ∧ xs.length + Ts.length ≤ sizeLine ∧ Q .non (upd H a (ndO w a (storeAllN xs Ts)))
theorem mt_updN (hc : X.calm = true) (hu : X.A.units + 64 < cLine) : MtM X "dict.update" (rUpdN X.w) := by
  intro pins s σ H x vs v us Q Iv rx rv h
  obtain ⟨a, l, xs, Ts, rfl, rfl, ha, nk, hl, hT, hz, q⟩ := h
  cases rx
  obtain ⟨u, rfl, ru⟩ := rv.one
  cases ru
  obtain ⟨hs, hlx, ys, p, dd⟩ := nd_of Iv.hok ha nk
  obtain ⟨zl, its, n, rvl, el⟩ := Iv.hok l _ hl
  obtain ⟨rs, pr⟩ := rows_at Iv.hok fun t m => (hT t m).1
  obtain ⟨od, es, ep, hod, hxd, hdd, _⟩ := id dd
  have lenR : rs.length = Ts.length := (Paired.length pr).symm
  have lenY : ys.length = xs.length := (Paired.length p).symm
  have eits : its = rs.map fun r => Value.ref r.1 := refs_rows pr rvl
  subst eits
  have key : ∀ r ∈ rs, IsN s.heap r.2.1 r.2.2.1 := fun r m => by
    obtain ⟨t, mt, _, e2, e3, _⟩ := rows_get pr r m
    rw [e2, e3]
    exact key_n (P := X.prog) (w := X.w) Iv.hok (hT t mt).2
  have notd : ∀ b o vs n, s.heap.get? b = some o → o.data = .seq vs n → b ≠ a := fun b o vs n e1 e2 e3 => by
    subst e3
    rw [hod] at e1
    cases e1
    rw [hdd] at e2
    cases e2
  have P0 := PairArg.list (prog := X.prog) (w := X.w) l (rs.map fun r => Value.ref r.1).toArray (fun j => (rs.map (·.1)).getD j 0) (rs.map fun r => (Value.ref r.2.2.1, r.2.2.2))
  have tupR : ∀ r ∈ rs, s.heap.IsTuple r.1 #[.ref r.2.2.1, r.2.2.2] := fun r m => by
    obtain ⟨t, mt, e1, _, e3, _, x⟩ := rows_get pr r m
    rw [e1, e3]
    exact x
  refine call_update_pairsH (knd := nestedKind X.prog X.w) (acc := ys) (ps := rs.map (·.2)) P0 (Iv.ok.hd hc) (room_n hu) ⟨⟨_, n, el, rfl, rfl, rfl⟩, by simp, fun j k v hj => ?_⟩ ?_ ⟨by simp, fun i k v e => ?_⟩ ?_ dd ?_ fun h' tk d' kp => ?_
  · rw [List.getElem?_map] at hj
    cases e : rs[j]? with
    | none => rw [e] at hj; cases hj
    | some r =>
      rw [e] at hj
      cases hj
      have eT : (rs.map (·.1)).getD j 0 = r.1 := by rw [List.getD_eq_getElem?_getD, List.getElem?_map, e]; rfl
      refine ⟨?_, .inl ?_⟩
      · show (rs.map fun r => Value.ref r.1).toArray[j]? = some (.ref ((rs.map (·.1)).getD j 0))
        rw [eT, List.getElem?_toArray, List.getElem?_map, e]
        rfl
      · show s.heap.IsTuple ((rs.map (·.1)).getD j 0) _
        rw [eT]
        exact tupR r (List.mem_of_getElem? e)
  · intro m
    rcases List.mem_cons.mp m with e | m
    · exact notd l _ _ _ el rfl e.symm
    · obtain ⟨j, hj, e⟩ := List.mem_map.mp m
      have hj := List.mem_range.mp hj
      rw [List.length_map] at hj
      have er : rs[j]? = some rs[j] := List.getElem?_eq_getElem hj
      have eT : (rs.map (·.1)).getD j 0 = (rs[j]).1 := by rw [List.getD_eq_getElem?_getD, List.getElem?_map, er]; rfl
      obtain ⟨o, ho, _, n', hd'⟩ := tupR _ (List.getElem_mem hj)
      exact notd _ o _ _ ho hd' (by rw [← eT]; exact e)
  · have e : (rs.map fun r => (Value.ref r.2.2.1, r.2.2.2))[i]? = some (k, v) := e
    rw [List.getElem?_map] at e
    cases er : rs[i]? with
    | none => rw [er] at e; cases e
    | some r =>
      rw [er] at e
      cases e
      exact ⟨r.2.1, r.2.2.1, by rw [List.getElem?_map, er]; rfl, rfl⟩
  · intro h' kp x m
    have x0 : IsN s.heap x.1 x.2.1 := by
      rcases List.mem_append.mp m with m | m
      · obtain ⟨o', es', ep', _, _, _, _, kk, _⟩ := dd
        exact kk x m
      · obtain ⟨r, mr, rfl⟩ := List.mem_map.mp m
        exact key r mr
    exact ⟨NestedIs.at (fun b o vs n e1 e2 => kp b o (notd b o vs n e1 e2) List.not_mem_nil e1) _ _ x0.1, x0.2⟩
  · rw [List.length_map, lenY, lenR]
    exact hz
  · have p' := storeAll_paired pr p
    have hl' : (storeAllN xs Ts).length ≤ sizeLine := Nat.le_trans (storeAllN_len Ts xs) hz
    refine ⟨.non, _, Iv.write (x := a) (e := a) (t' := tk) (by rw [ha]; exact True.intro) (.inl rfl) (fun b o ne e => kp b o ne List.not_mem_nil e) (let ⟨o, _, _, h1, _⟩ := d'; ⟨o, h1⟩) (nd_obj hs hl' p' d'), rfl, q⟩
end
/-! ### told of data -/
section
variable {β : Type} {dec : β → List NestedKey} {val : β → D}
def rowD (dec : β → List NestedKey) (val : β → D) (b : β) : D := .tuple [(NestedKey.tup (dec b)).data, val b]
def putAll (dec : β → List NestedKey) (val : β → D) (kvs : List (NestedKey × D)) (bs : List β) : List (NestedKey × D) := bs.foldl (fun kvs b => putD kvs (.tup (dec b)) (val b)) kvs
theorem rows_dq {I : Hp} (hd : ∀ b, (NestedKey.tup (dec b)).depth ≤ 8) : ∀ {zs : List V} {bs : List β}, DqAll I zs (bs.map (rowD dec val)) → ∃ Ts : List (Addr × EN), zs = Ts.map (fun t => V.ref t.1) ∧
    Paired (fun b t => t.2.1 = .tup (dec b) ∧ Dq I t.2.2.2 (val b)) bs Ts ∧ ∀ t ∈ Ts, I t.1 = some (.tup [.ref t.2.2.1, t.2.2.2]) ∧ KeyAt I t.2.2.1 t.2.1
  | _, [], h => by cases h; exact ⟨[], rfl, .nil, fun t m => by cases m⟩
  | _, b :: bs, h => by
    rw [List.map_cons] at h
    cases h with
    | cons h t =>
      obtain ⟨Ts, e1, e2, e3⟩ := rows_dq hd t
      have h : Dq I _ (.tuple [.tuple (NestedKey.datas (dec b)), val b]) := h
      cases h with
      | tup ha ta =>
        rename_i T xs
        cases ta with
        | cons k1 tb =>
          cases tb with
          | cons k2 tc =>
            cases tc
            cases k1 with
            | tup hk tk =>
              rename_i v kb ks
              exact ⟨(T, .tup (dec b), kb, v) :: Ts, by rw [e1]; rfl, .cons ⟨rfl, k2⟩ e2, fun t m => by
                rcases List.mem_cons.mp m with rfl | m
                · exact ⟨ha, .tup hk tk, hd b⟩
                · exact e3 t m⟩
theorem dn_all {K : PySem.W.Frag} {I : Hp} : ∀ {bs : List β} {Ts : List (Addr × EN)}, Paired (fun b t => t.2.1 = .tup (dec b) ∧ Dq I t.2.2.2 (val b)) bs Ts → (∀ t ∈ Ts, KeyAt I t.2.2.1 t.2.1) → ∀ {kvs : List (NestedKey × D)} {xs : List EN}, Paired (DnR K I) kvs xs → Paired (DnR K I) (putAll dec val kvs bs) (storeAllN xs Ts)
  | _, _, .nil, _, _, _, p => p
  | _, _, .cons (a := b) (b := t) q qs, hk, kvs, xs, p => by
    show Paired (DnR K I) (putAll dec val (putD kvs (.tup (dec b)) (val b)) _) (storeAllN (storeN xs t.2.1 t.2.2.1 t.2.2.2) _)
    rw [q.1]
    refine dn_all qs (fun t m => hk t (List.mem_cons_of_mem _ m)) (dn_store p ?_ ⟨.inl q.2⟩)
    rw [← q.1]
    exact hk t List.mem_cons_self
end
section
variable {X : Cx} {ρ : List Sl} {W : Wx} {e : Expr} {Q : Bool → D → List Sl → Prop} {β : Type} {dec : β → List NestedKey} {val : β → D}
/-- x.update(e), e a list of pairs -/
theorem em_updateN (i : Nat) {x : Str} {q : Addr} {kvs : List (NestedKey × D)} {p' apos cpos : Pos} (hdp : ∀ b, (NestedKey.tup (dec b)).depth ≤ 8) (hc : X.calm = true) (hu : X.A.units + 64 < cLine) (h0 : ρ[i]? = some (.mo q (.dn X.w q kvs)))
    (h : EM false X e ρ W fun _ y ρ2 => ∃ (kvs' : List (NestedKey × D)) (bs : List β), y = .list (bs.map (rowD dec val)) ∧ ρ2[i]? = some (.mo q (.dn X.w q kvs')) ∧ kvs'.length + bs.length ≤ sizeLine ∧ Q false .none (ρ2.set i (.mo q (.dn X.w q (putAll dec val kvs' bs))))) (hN : X.N[i]? = some x := by rfl) (hv : Vis X.env.scope x := by first | exact Or.inl rfl | exact Or.inr (Or.inl rfl) | exact Or.inr (Or.inr rfl))
    (hd : (x == ("__debug__" : Str)) = false := by decide) (hcd : (x == ("__classdict__" : Str)) = false := by decide)
    (hbase : attributeBase (.Name x p') "update" X.env (eval (.Name x p') X.env) = eval (.Name x p') X.env := by rfl)
    (hfew : ((backTo cpos (starEach (e :: []) X.env)).all (fun x => !x.1) && (backToKw cpos (keywordEach [] X.env)).all (fun x => x.1.isSome)
      && decide ((e :: ([] : List Expr)).length + ([] : List Keyword).length + (if ([] : List Keyword).isEmpty then 0 else 1) < 30)) = true := by rfl)
    (hline : (apos.endLine == cpos.line) = true := by rfl) (hs : starEach [e] X.env = (false, eval e X.env) :: starEach [] X.env := by rfl) (hplain : (backTo cpos (starEach [] X.env)).any (·.1) = false := by rfl) :
    EM false X (.Call (.Attribute (.Name x p') "update" apos) [e] [] cpos) ρ W Q := fun σ I H ok xk R f => by
  obtain ⟨xs, hσ, hH, _⟩ := dn_at ok h0
  refine ⟨_, pe_bmT (ty := fun x H => ∃ p xs, x = .ref p ∧ H p = some (ndO X.w p xs)) PySem.F.plainAttrs_dict PySem.F.slot_dict_update PySem.F.type_dict_update (mt_updN hc hu) (pe_var hN hv hd hcd) (pa_cons pe_w pa_nil hs) (fun Iv r ⟨p, xs, ex, hp⟩ => ?_) hbase hfew hline hs hplain, _, hσ, ⟨q, xs, rfl, hH⟩, ?_⟩
  · subst ex
    cases r
    obtain ⟨⟨_, _, _, o, es, ep, h1, h2, _⟩, _⟩ := Iv.hok _ _ hp
    exact ⟨⟨o, h1, h2.1⟩, fun a e => by cases e; exact ⟨o, h1, h2.2.1⟩⟩
  refine EM.run h ok xk fun v _ y ρ2 I2 H2 g2 r2 ⟨kvs', bs, ey, h2, hl, q2⟩ => ?_
  subst ey
  have ok2 := g2.env ok
  obtain ⟨xs', _, hq, t⟩ := dn_at ok2 h2
  obtain ⟨l, zs, rfl, hb, t'⟩ := r2.lst
  obtain ⟨Ts, e1, e2, e3⟩ := rows_dq hdp t'
  subst e1
  have lT : Ts.length = bs.length := (Paired.length e2).symm
  have g := ok2.mut (mo' := .dn X.w q (putAll dec val kvs' bs)) h2 ⟨_, rfl, dn_all e2 (fun t m => (e3 t m).2) t⟩
  exact ⟨q, l, xs', Ts, rfl, rfl, hq, dn_nk ok2.sub t, ok2.sub.lst hb, fun t m => ⟨ok2.sub.tup (e3 t m).1, Dq.sub ok2.sub (e3 t m).2.1, (e3 t m).2.2⟩, by rw [← Paired.length t, lT]; exact hl, f _ false _ _ _ _ (g2.trans g) Rv.mkNon q2⟩
end
end Tt

/-! {key: value for .. in ..}, the keys nested tuples. -/
namespace Tt
open PySem PySem.Spec PyProof.Rows L2 PySem.W
section
variable {X : Cx}
/-- a dict's new entry, stored by a comprehension -/
theorem dn_dictSet {pins : List (Addr × Obj)} {σ : L2.St} {H : Hp} {s : Shared} {E : Value → Shared → Prop} {D b : Addr} {xs : List EN} {k : NestedKey} {v : V} {r : Value} {Q : Unit → Shared → Prop} (hu : X.A.units + 8 < cLine) (Iv : Inv X pins σ H s) (hD : H D = some (ndO X.w D xs)) (nk : NK H xs) (hk : KeyAt H b k) (hl : xs.length < sizeLine)
    (rv : RelV v r) (h : ∀ s', Inv X pins σ (upd H D (ndO X.w D (storeN xs k b v))) s' → Q () s') : wpAny (model X.prog X.w) X.A (dictSet D (.ref b) r) Q E s := by
  obtain ⟨hs, hz, ys, p, d⟩ := nd_of Iv.hok hD nk
  refine wpAny_dictSet_heap (knd := nestedKind X.prog X.w) (hsz := by rw [← Paired.length p]; exact hz) hu (key_n Iv.hok hk) d fun h' d' sb => h _ ?_
  have hl' : (storeN xs k b v).length ≤ sizeLine := Nat.le_trans ptb_length hl
  exact d_write Iv (by rw [hD]; exact True.intro) sb (let ⟨o, _, _, h1, _⟩ := d'; ⟨o, h1⟩) (nd_obj hs hl' (storeN_paired p k b rv) d')
/-- where such a comprehension stands -/
def tDn (w : World) (wi : TI) (g : TG) (tk tv : TE) (vs : List Nat) : TE := fun σ H Q => wi σ H fun J H1 => ∀ D, H1 D = none → ∃ W : Nat → Nat → Hp → Prop, (∃ m, W 0 m (upd H1 D (ndO w D []))) ∧ ∀ i m H, W i m H →
  (J.stop i H ∧ Q (.ref D) H) ∨ (J.go i H ∧ ∃ Nx : Hp → Prop, (∀ H', Nx H' → ∃ m', m' < m ∧ W (i + 1) m' H') ∧ ∀ x H', J.yld i H x H' → g x (wipe σ vs) H' fun σ2 H2 => wipe σ2 vs = wipe σ vs ∧
    tk σ2 H2 fun y H4 => tv σ2 H4 fun z H5 => ∃ xs k b, y = .ref b ∧ H5 D = some (ndO w D xs) ∧ NK H5 xs ∧ KeyAt H5 b k ∧ xs.length < sizeLine ∧ Nx (upd H5 D (ndO w D (storeN xs k b z))))
variable {kx vx tg iter : Expr} {scope : Scope} {own : List (Str × Nat)} {pos : Pos} {wi : TI} {g : TG} {tk tv : TE}
theorem pe_dcN (hu : X.A.units + 64 < cLine) (hc : X.calm = true) (hN : X.N.Nodup) (hi : PI X tg iter wi) (ok : BlkOk X.N X.env.scope scope own) (hg : InB X scope fun Y => PG Y tg g) (hk : InB X scope fun Y => PE Y kx tk) (he : InB X scope fun Y => PE Y vx tv)
    (hs : ∀ x, foldedSetIterable iter X.env x = pure x := by intro _; rfl) : PE X (.DictComp kx vx [⟨tg, iter, [], 0⟩] scope pos) (tDn X.w wi g tk tv (own.map (·.2))) := by
  refine ⟨fun pins s σ H Q Iv h => ?_⟩
  rw [arm_eval_DictComp]
  have free : ∀ y ∈ scope.names, y.2 = .free → ∃ c, X.env.cells.lookup y.1 = some c := fun y hy e => (ok.free y hy e).elim (fun k => Iv.ok.has _ (.inl k)) fun k => Iv.ok.has _ (.inr k)
  refine wpAny_comprehension_free (use := none) rfl hs (closure_ok free) ok.kind (fun y hy e => by rw [ok.uniq y hy, e]) (thn (hi.run pins s σ H _ Iv h) fun xv s1 hx => thn hx fun itv s2 h2 => ?_)
  obtain ⟨it, fp, tn, J, H2, rfl, I2, T, st2, f2, q⟩ := h2
  refine wpAny_newObj_type (newEnv_comp ?_)
  generalize hD : s2.heap.objs.size = D
  have D0 : H2 D = none := I2.hok.fresh (Nat.le_of_eq hD)
  obtain ⟨W, ⟨m0, w0⟩, turn⟩ := q D D0
  -- the state with the new dict
  generalize hs3 : ({ s2 with heap := s2.heap.push { cls := .type "dict", data := .dict #[] } } : Shared) = s3
  have h3 : s3.heap = s2.heap.push { cls := .type "dict", data := .dict #[] } := by rw [← hs3]
  have I3 : Inv X pins σ (upd H2 D (ndO X.w D [])) s3 := by
    subst hs3 hD
    exact I2.laid (t' := s2.toks) (fun b o e => Heap.get?_push_of_some _ e) (Nat.le_refl _) (nd_obj (beq_eq_false_iff_ne.mpr (Ne.symm (Nat.ne_of_lt I2.big))) (Nat.zero_le _) .nil (Heap.DictOfH.new (knd := nestedKind X.prog X.w) s2.heap))
  have f3 : ∀ b ∈ fp, FpOk X pins (upd H2 D (ndO X.w D [])) b ∧ b < s3.heap.objs.size := fun b hb => by
    obtain ⟨o, e, _⟩ := T.obj _ _ st2 b hb
    have lt := Heap.lt_size e
    refine ⟨⟨by rw [upd_ne (by rw [← hD]; exact Nat.ne_of_lt lt)]; exact (f2 b hb).1, (f2 b hb).2⟩, ?_⟩
    rw [h3, Heap.size_push]
    exact Nat.lt_succ_of_lt lt
  have st3 : tn 0 s3.heap := T.keep _ _ _ st2 fun b _ o e => by rw [h3]; exact Heap.get?_push_of_some _ e
  have I4 := block_start I3 ok hN f3
  have pg := hg s3 (upd H2 D (ndO X.w D [])) s3.heap.objs.size (cellsFrom (s3.heap.objs.size + 1) scope.names (cloFrom X.env.cells scope.names [])) fp
  have pk := hk s3 (upd H2 D (ndO X.w D [])) s3.heap.objs.size (cellsFrom (s3.heap.objs.size + 1) scope.names (cloFrom X.env.cells scope.names [])) fp
  have pe := he s3 (upd H2 D (ndO X.w D [])) s3.heap.objs.size (cellsFrom (s3.heap.objs.size + 1) scope.names (cloFrom X.env.cells scope.names [])) fp
  unfold bk at pg pk pe
  show codeAny _ _ (.compStart (.DictComp kx vx [⟨tg, iter, [], 0⟩] scope pos) 0 (.ref it) (.ref D) (compEnvC scope (cellsFrom (s3.heap.objs.size + 1) scope.names (cloFrom X.env.cells scope.names [])) s3.heap.objs.size X.env)) (compPost (model X.prog X.w) X.A X.xe none (EP X pins σ Q) (.ref D) s3.heap.objs.size) { s3 with heap := pushCells (s3.heap.push { cls := .type "dict", data := .dict #[] }) scope.names }
  generalize upd H2 D (ndO X.w D []) = H3 at w0 I3 I4 f3 pg pk pe
  generalize hce : compEnvC scope (cellsFrom (s3.heap.objs.size + 1) scope.names (cloFrom X.env.cells scope.names [])) s3.heap.objs.size X.env = ce at I4 pg pk pe ⊢
  have cL : ce.locals = s3.heap.objs.size := by subst hce; rfl
  generalize hs4 : ({ s3 with heap := pushCells (s3.heap.push { cls := .type "dict", data := .dict #[] }) scope.names } : Shared) = s4 at I4 ⊢
  have st4 : tn 0 s4.heap := T.keep _ _ _ st3 fun b _ o e => by rw [← hs4]; exact pushCells_keeps _ _ _ _ (Heap.get?_push_of_some _ e)
  -- what the iterator reads stands apart
  have apart : ∀ {σ' : L2.St} {H' : Hp} {s' : Shared}, Inv (X.blk s3 H3 scope ce fp) [] σ' H' s' → (∀ b ∈ fp, H' b = none) → ∀ b ∈ fp, FpOk (X.blk s3 H3 scope ce fp) [] H' b := fun {σ' H' s'} I' hn b hb =>
    ⟨hn b hb, (I'.ok.exf b hb).1, I'.ok.exfs b hb, .inl hb, fun x c e => (I'.ok.exf b hb).2 x c e, fun p hp => absurd (show p ∈ ([] : List (Addr × Obj)) ++ [] from hp) (by simp)⟩
  have loop : codeAny (model X.prog X.w) X.A (.compLoop (.DictComp kx vx [⟨tg, iter, [], 0⟩] scope pos) 0 (.ref it) (.ref D) ce) (compPost (model X.prog X.w) X.A X.xe none (EP X pins σ Q) (.ref D) s3.heap.objs.size) s4 := by
    refine compLoop_anyD (fun n s' => ∃ i H', Inv (X.blk s3 H3 scope ce fp) [] (wipe σ (own.map (·.2))) H' s' ∧ tn i s'.heap ∧ (∀ b ∈ fp, H' b = none) ∧ W i n H') ?_ m0 ⟨0, H3, I4, st4, fun b hb => (f3 b hb).1.1, w0⟩
    rintro n s5 ⟨i, H5, I5, st5, n5, w5⟩
    rcases turn i n H5 w5 with ⟨stop, qq⟩ | ⟨go, Nx, hNx, step⟩
    · refine thnF (T.done (X.blk s3 H3 scope ce fp) rfl rfl rfl hc i [] s5 _ H5 (fun _ _ => False) I5 (apart I5 n5) st5 stop) fun r s6 ⟨hr, I6⟩ => ?_
      subst hr
      have I7 : Inv X pins σ H5 s6 := I3.call' (ch := fp) I6.os I6.base I6.hok I6.bare fun b hb => ⟨(f3 b hb).1.2.2.2.1, (f3 b hb).1.2.1, (f3 b hb).1.2.2.2.2.1, (f3 b hb).1.2.2.2.2.2⟩
      obtain ⟨m, hn, _⟩ := I6.loc
      have hn : s6.heap.Ns s3.heap.objs.size m := by rw [← cL]; exact hn
      obtain ⟨f0, f1, f2', f3', f4, f5⟩ := I3.fpOk (H' := H5) (Nat.le_refl s3.heap.objs.size) (by rw [← cL]; exact I6.free)
      exact ⟨m, hn, fun h'' sb => ⟨.ref D, H5, I7.turned (t' := s6.toks) (fun b o hb e => (sb.2 b hb).trans e) f0 f1 f3' f4 f5, rfl, qq⟩⟩
    · refine thnF (T.item (X.blk s3 H3 scope ce fp) rfl rfl rfl hc i [] s5 _ H5 (fun _ _ => False) I5 (apart I5 n5) st5 go) fun r s6 ⟨u, hr, h6⟩ => ?_
      subst hr
      refine thnF h6 fun _ s7 ⟨x, H7, I7, r7, y7, st7, n7⟩ => ?_
      refine thnF (pg.run _ s7 _ H7 x u _ (I7.pinned (apart I7 n7) (T.obj _ _ st7)) r7 (step x H7 y7)) fun _ s8 ⟨σ8, H8, I8, hw8, q8⟩ => ?_
      refine wpAny_pure ?_
      refine thnF (pk.run _ s8 σ8 H8 _ I8 q8) fun z s10 ⟨yk, H10, I10, r10, q10⟩ => ?_
      refine thnF (pe.run _ s10 σ8 H10 _ I10 q10) fun z2 s11 ⟨yv, H11, I11, r11, xs, k, b, ek, hD11, nk11, hk11, hz11, nx⟩ => ?_
      subst ek
      cases r10
      refine dn_dictSet (X := X.blk s3 H3 scope ce fp) (by show X.A.units + 8 < cLine; omega) I11 hD11 nk11 hk11 hz11 r11 fun s12 I12 => ?_
      obtain ⟨m', hm, w'⟩ := hNx _ nx
      have pin : ∀ b ∈ fp, ∀ o, s7.heap.get? b = some o → _ := fun b hb o e => I12.pin (b, o) (List.mem_append_right _ (List.mem_append_right _ (mem_pinsAt hb e)))
      refine ⟨m', hm, i + 1, _, (I12.unpinned (pins := [])).weak (by rw [← hw8, wipe_length]) (fun j v e => ?_), T.keep _ _ _ st7 fun b hb o e => (pin b hb o e).1, fun b hb => ?_, w'⟩
      · rw [← hw8] at e
        exact (wipe_some e).1
      · obtain ⟨o, e, _⟩ := T.obj _ _ st7 b hb
        exact (pin b hb o e).2.1
  exact codeAny_compStart_dict loop (T.self X.A 0 _ _ _ st4 loop)
end
end Tt

/-! {key: value for .. in ..} told of data. -/
namespace Tt
open PySem PySem.Spec PyProof.Rows L2 PySem.W
/-- {kx: vx for tg in iter} with pure parts -/
def HDn (X : Cx) (kx vx tg iter : Expr) (scope : Scope) (t : Tg) (vs : List Nat) (ρ : List Sl) (W : Wx) (Q : List (NestedKey × D) → Prop) : Prop :=
  IM true X tg iter ρ W fun its _ => its.length ≤ sizeLine ∧ ∃ (β : Type) (xs : List β) (enc : β → D) (dec : β → List NestedKey) (val : β → D), its = xs.map enc ∧ (∀ b, (NestedKey.tup (dec b)).depth ≤ 8) ∧
    (∀ a ∈ xs, ∃ ρ3, Tg.put t (enc a) (wipeS ρ vs) = some ρ3 ∧ InB X scope fun Y => EM true Y kx ρ3 W0 (fun _ y _ => y = (NestedKey.tup (dec a)).data) ∧ EM true Y vx ρ3 W0 fun _ y _ => nd y = true ∧ y = val a) ∧ Q (putAll dec val [] xs)
theorem putAll_len {β : Type} {dec : β → List NestedKey} {val : β → D} : ∀ (xs : List β) (kvs : List (NestedKey × D)), (putAll dec val kvs xs).length ≤ kvs.length + xs.length
  | [], _ => Nat.le_refl _
  | x :: xs, kvs => by
    have h1 := putAll_len (dec := dec) (val := val) xs (putD kvs (.tup (dec x)) (val x))
    have h2 : (putD kvs (.tup (dec x)) (val x)).length ≤ kvs.length + 1 := putD_length
    rw [List.length_cons]
    show (putAll dec val (putD kvs (.tup (dec x)) (val x)) xs).length ≤ _
    omega
section
variable {X : Cx} {m : Bool} {ρ : List Sl} {W : Wx} {kx vx tg iter : Expr} {scope : Scope} {pos : Pos}
theorem vm_dcN {QV : Sl → List Sl → Prop} (t : Tg) (own : List (Str × Nat)) (hu : X.A.units + 64 < cLine) (hc : X.calm = true) (hN : X.N.Nodup) (ok : BlkOk X.N X.env.scope scope own) (hg : InB X scope fun Y => PG Y tg (Tg.g X.K t)) (ht : ∀ i ∈ Tg.slots t, i ∈ own.map (·.2))
    (h : HDn X kx vx tg iter scope t (own.map (·.2)) ρ W fun kvs => ∀ p, QV (.mo p (.dn X.w p kvs)) ρ) (hs : ∀ x, foldedSetIterable iter X.env x = pure x := by intro _; rfl) : VM m X (.DictComp kx vx [⟨tg, iter, [], 0⟩] scope pos) ρ W QV := fun σ I H okk xk R f => by
  refine ⟨_, pe_dcN hu hc hN pi_w ok hg (fun s H C cl fp => pe_wb s H C cl fp) (fun s H C cl fp => pe_wb s H C cl fp) hs, ?_⟩
  refine h σ I H okk xk _ fun J its ρ1 I1 H1 g1 w ⟨hz, β, xs, enc, dec, val, es, hd, turn, q⟩ D nD => ?_
  have e1 : ρ1 = ρ := g1.1
  subst e1
  subst es
  have w := w
  rw [List.length_map] at hz
  have ok1 := g1.env okk
  have nI1 : I1 D = none := ok1.sub.nn nD
  -- the state before turn i
  let Pv : Nat → Hp → Prop := fun i H' => ∃ I2 es, Go true X.K σ ρ1 I1 H1 ρ1 I2 H' ∧ I2 D = none ∧ H' D = some (ndO X.w D es) ∧ Paired (DnR X.K I2) (putAll dec val [] (xs.take i)) es
  have p0 : Pv 0 (upd H1 D (ndO X.w D [])) := ⟨I1, [], (Go.refl ok1).dark ok1 nD nI1, nI1, upd_same, .nil⟩
  have step : ∀ i H', i < xs.length → Pv i H' → ∀ x H'', J.yld i H' x H'' → Tg.g X.K t x (wipe σ (own.map (·.2))) H'' fun σ2 H2 => wipe σ2 (own.map (·.2)) = wipe σ (own.map (·.2)) ∧
      wEb X scope kx σ2 H2 fun y H4 => wEb X scope vx σ2 H4 fun z H5 => ∃ xs k b, y = .ref b ∧ H5 D = some (ndO X.w D xs) ∧ NK H5 xs ∧ KeyAt H5 b k ∧ xs.length < sizeLine ∧ Pv (i + 1) (upd H5 D (ndO X.w D (storeN xs k b z))) := by
    rintro i H' hi ⟨I2, es, g, nd2, hD, pe⟩ x H'' y
    have ok2 := g.env ok1
    obtain ⟨d, hd0, y⟩ := w.w.yields i H' x H'' (by rw [List.length_map]; exact hi) (ok2.sub.same g.ii) y
    rw [List.getElem?_map, List.getElem?_eq_getElem hi] at hd0
    cases hd0
    have hmem : xs[i] ∈ xs := List.getElem_mem hi
    have htk : xs.take (i + 1) = xs.take i ++ [xs[i]] := by rw [List.take_add_one, List.getElem?_eq_getElem hi]; rfl
    generalize xs[i] = a at y hmem htk
    obtain ⟨I3, g3, r3⟩ := y I2 g.ii ok2.sub
    obtain ⟨ρ3, e3, body⟩ := turn a hmem
    have ok3 := ok2.grow g3
    obtain ⟨σ3, p3, q3⟩ := Tg.run t (EnvOk.wiped (vs := own.map (·.2)) ok3) r3 e3
    have gg := g.grow ok1 g3
    have hD3 : H'' D = some (ndO X.w D es) := g3.hh D _ hD
    have nd3 : I3 D = none := g3.fr D _ hD nd2
    have nm : ¬ Mt ρ3 D := fun z => by
      obtain ⟨j, hj⟩ := p3.mt D z
      obtain ⟨o, e⟩ := ok1.there (g.mt D ⟨j, (ft_wipe hj).1⟩)
      rw [nD] at e
      cases e
    have pw := p3.wide ht
    refine q3 _ ⟨wipe_put p3 ht, fun s0 H0 C cl fp => ?_⟩
    refine EM.run (body s0 H0 C cl fp).1 p3.env XOk.zero fun v o y1 ρ4 I4 H4 g4 r4 ey => ?_
    obtain rfl : ρ4 = ρ3 := g4.1
    have hD4 : H4 D = some (ndO X.w D es) := g4.step.oth D _ hD3 nm
    have nd4 : I4 D = none := g4.step.fr D _ hD3 nd3 nm
    intro s1 H1' C1 cl1 fp1
    refine EM.run (body s1 H1' C1 cl1 fp1).2 (g4.env p3.env) XOk.zero fun v2 o2 y2 ρ5 I5 H5 g5 r5 ⟨ny, ey2⟩ => ?_
    obtain rfl : ρ5 = ρ4 := g5.1
    have g45 := g4.trans g5
    have hD5 : H5 D = some (ndO X.w D es) := g5.step.oth D _ hD4 nm
    have nd5 : I5 D = none := g5.step.fr D _ hD4 nd4 nm
    subst ey ey2
    obtain ⟨b, rfl, hk⟩ := key_ref (hd a) r4
    have hk5 : KeyAt I5 b (.tup (dec a)) := ⟨Dq.same g5.ii hk.1, hk.2⟩
    have sb5 := (g45.env p3.env).sub
    have pe5 : Paired (DnR X.K I5) (putAll dec val [] (xs.take i)) es := paired_imp (fun _ _ _ r => ⟨r.1, ⟨Dq.same ((g3.ii.trans g4.ii).trans g5.ii) r.2.1.1, r.2.1.2⟩, Rv.same ((g3.ii.trans g4.ii).trans g5.ii) r.2.2⟩) pe
    have le : es.length < sizeLine := by
      rw [← Paired.length pe]
      have := putAll_len (dec := dec) (val := val) (xs.take i) []
      rw [List.length_take, List.length_nil] at this
      omega
    have pn : Paired (DnR X.K I5) (putAll dec val [] (xs.take (i + 1))) (storeN es (.tup (dec a)) b v2) := by
      rw [htk]
      unfold putAll
      rw [List.foldl_append]
      exact dn_store pe5 hk5 r5
    have bk5 : backS (own.map (·.2)) ρ1 ρ5 = ρ1 := backS_put e3 ht
    have go5 := gg.trans (Go.back ok3 pw g45)
    rw [bk5] at go5
    exact ⟨es, .tup (dec a), b, rfl, hD5, dn_nk sb5 pe5, ⟨Dq.sub sb5 hk5.1, hk5.2⟩, le, I5, _, go5.dark ok1 nD nd5, nd5, upd_same, pn⟩
  refine ⟨fun i mm H' => mm = xs.length - i ∧ i ≤ xs.length ∧ Pv i H', ⟨xs.length, by simp, Nat.zero_le _, p0⟩, ?_⟩
  rintro i mm H' ⟨rfl, hi, pv⟩
  obtain ⟨I2, es, g, nd2, hD, pe⟩ := id pv
  have sub2 : Sub I1 H' := (g.env ok1).sub.same g.ii
  by_cases hlt : i < xs.length
  · exact .inr ⟨w.w.goes i H' (by rw [List.length_map]; exact hlt) sub2, Pv (i + 1), fun H2 p2 => ⟨xs.length - (i + 1), by omega, rfl, hlt, p2⟩, fun x H2 y => step i H' hlt pv x H2 y⟩
  · obtain rfl : i = xs.length := by omega
    rw [List.take_length] at pe
    have st := w.w.stops H' sub2
    rw [List.length_map] at st
    exact .inl ⟨st, f _ (.mo D (.dn X.w D (putAll dec val [] xs))) ρ1 I2 H' ((g1.trans g).any okk) ⟨⟨rfl, _, hD, es, rfl, pe⟩, List.pairwise_singleton _ _, fun a z => by rw [List.mem_singleton.mp z]; exact ⟨g1.nn D nD, nd2⟩⟩ (q D)⟩
end
section
variable {X : Cx} {m : Bool} {ρ : List Sl} {W : Wx} {e : Expr} {pos : Pos} {Q : Bool → D → List Sl → Prop}
/-- e in x, as a value -/
theorem em_nin (i : Nat) {x : Str} {p' : Pos} (hu : X.A.units + 64 < cLine) (h : EM m X e ρ W fun _ d ρ1 => ∃ q kvs ks, d = (NestedKey.tup ks).data ∧ (NestedKey.tup ks).depth ≤ 8 ∧ ρ1[i]? = some (.mo q (.dn X.w q kvs)) ∧ Q false (.bool (valD kvs (.tup ks)).isSome) ρ1) (hN : X.N[i]? = some x := by rfl) (hv : Vis X.env.scope x := by first | exact Or.inl rfl | exact Or.inr (Or.inl rfl) | exact Or.inr (Or.inr rfl))
    (hd : (x == ("__debug__" : Str)) = false := by decide) (hcd : (x == ("__classdict__" : Str)) = false := by decide) (hm : behindInMarks .In (.Name x p') = false := by rfl) : EM m X (.Compare e [.In] [.Name x p'] pos) ρ W Q := fun σ I H ok xk R f =>
  ⟨_, pe_cmpR (op_nin hu) pe_w (pe_var hN hv hd hcd) hm, EM.run h ok xk fun v _ y ρ2 I2 H2 g2 r2 ⟨q, kvs, ks, ed, dp, h2, q2⟩ => by
    subst ed
    have ok2 := g2.env ok
    obtain ⟨xs, hσ, hH, t⟩ := dn_at ok2 h2
    obtain ⟨bb, rfl, hk⟩ := key_ref dp r2
    refine ⟨_, hσ, q, bb, xs, .tup ks, rfl, rfl, hH, dn_nk ok2.sub t, ⟨Dq.sub ok2.sub hk.1, hk.2⟩, ?_⟩
    rw [← (dn_find t (.tup ks)).isSome]
    exact f _ false _ ρ2 I2 H2 g2 Rv.mkBl q2⟩
end
section
variable {X : Cx}
theorem fd_isnot_bool {b c : Bool} {Q : Bool → D → Prop} (q : Q false (.bool (!decide (b = c)))) : FD X (compareOp .IsNot) (.bool b) (.bool c) Q := fun I H v u s rv ru R k => by
  rw [rv.bl, ru.bl]
  exact ⟨_, op_isnot_bl, b, c, rfl, rfl, k.val s .mkBl q⟩
end
end Tt

/-! set(t), t a tuple: of nested tuples; of whole numbers. -/
namespace Tt
open PySem PySem.Spec PyProof.Rows L2 PySem.W
theorem ints_item : ∀ {vs : List Value} {ks : List Int}, IntsAre vs ks → ∀ (i : Nat) (v : Value), vs[i]? = some v → ∃ k t, v = .int k t ∧ ks[i]? = some k
  | _, _, .nil, i, v, e => by simp at e
  | _, _, .cons k t r, 0, v, e => ⟨k, t, (Option.some.inj e).symm, rfl⟩
  | _, _, .cons k t r, i + 1, v, e => by
    obtain ⟨k', t', a, b⟩ := ints_item r i v (by simpa using e)
    exact ⟨k', t', a, by simpa using b⟩
def GotIz (w : World) (h : Heap) (S : Addr) (ks : List Int) (i : Nat) : Prop := ∃ c, SetR w h S (fun j => decide (j ∈ ks.take i)) c
theorem GotIz.keep {w : World} {h h' : Heap} {S : Addr} {ks : List Int} {i : Nat} (g : GotIz w h S ks i) (ha : ∀ o, h.get? S = some o → h'.get? S = some o) : GotIz w h' S ks i := by
  obtain ⟨c, R⟩ := g
  exact ⟨c, R.at ha⟩
section
variable {P : Program} {w : World} {A : Around} {E : Value → Shared → Prop} {s : Shared}
theorem gotIz_fresh {h : Heap} {a : Addr} {ks : List Int} (ho : h.get? a = some { cls := .type "set", dict := none, data := .set #[] 0 (.fresh 0 0 (!w.params.followText "set-order")) }) : GotIz w h a ks 0 := by
  refine ⟨0, _, #[], 0, _, ho, ⟨rfl, rfl, rfl⟩, rfl, fun e m => absurd m (by simp), List.nodup_nil, fun k => by simp, (by decide : 0 < scanBound), rfl, rfl, List.Pairwise.nil, ?_⟩
  show _ ∨ (!w.params.followText "set-order") = true
  cases w.params.followText "set-order"
  · exact .inr rfl
  · exact .inl rfl
theorem gotIz_add {a : Addr} {k : Int} {tk : Tok} {ks : List Int} {i : Nat} (g : GotIz w s.heap a ks i) (hp : ks[i]? = some k) (hU : ∀ l : List Int, l.Nodup → (∀ k ∈ l, k ∈ ks) → l.length + 1 < 4096)
    {Q : Bool → Shared → Prop} (hQ : ∀ b h', Heap.SameBut a s.heap h' → GotIz w h' a ks (i + 1) → Q b { s with heap := h' }) : wpAny (model P w) A (setAddHashed a (.int k tk) ((intKind P w).hash k)) Q E s := by
  obtain ⟨c, R⟩ := g
  have hc : c + 1 < scanBound := by
    obtain ⟨o, es, ep, t, ho, hex, hd, gg, nd, hm, hb, hf, hn, hr, hl⟩ := R
    have := hU (es.toList.map keyOf) nd fun j hj => List.mem_of_mem_take (of_decide_eq_true ((hm j).mpr hj))
    rw [List.length_map, Array.length_toList, hn] at this
    exact this
  refine setR_add_hashed R hc fun h' sb R2 => hQ _ h' sb ⟨_, R2.congr fun j => ?_⟩
  rw [List.take_add_one, hp]
  simp [List.mem_append]
theorem setIz_update {I : Addr} {fp wr : List Addr} {G : Array GenState → Array GenState → Prop} {n : Nat} {Pv : Nat → Value → Prop} {St : Nat → Shared → Prop} {R : Result → Shared → Prop}
    (W : WalksS P w A.in1 I fp wr G n Pv St) (S : Addr) (hSf : S ∉ fp) (ks : List Int) (hn : n = ks.length) (hU : ∀ l : List Int, l.Nodup → (∀ k ∈ l, k ∈ ks) → l.length + 1 < 4096) (hval : ∀ i v, Pv i v → ∃ k t, ks[i]? = some k ∧ v = .int k t)
    (h0 : Heap) (hS0 : h0.get? S = none) (hw0 : ∀ b ∈ wr, h0.get? b = none) :
    ∀ (k i : Nat) (s : Shared), n - i = k → i ≤ n → St i s → (∀ b o, h0.get? b = some o → s.heap.get? b = some o) → GotIz w s.heap S ks i →
      (∀ s', Moved (S :: wr) G s s' → GotIz w s'.heap S ks n → (∀ b o, h0.get? b = some o → s'.heap.get? b = some o) → R (.ok (.ret .none)) s') →
      codeAny (model P w) A (.builtin "set.update.loop" ⟨[.ref S, .ref I], []⟩) R s := by
  have hSw : S ∉ wr := fun h => hSf (W.sub _ h)
  have hsub : ∀ b ∈ wr, b ∈ S :: wr := fun b hb => List.mem_cons_of_mem _ hb
  have keepM : ∀ {s s' : Shared}, Moved wr G s s' → (∀ b o, h0.get? b = some o → s.heap.get? b = some o) → ∀ b o, h0.get? b = some o → s'.heap.get? b = some o := fun hm hkp b o e =>
    hm.heap b o (fun hb => by rw [hw0 b hb] at e; cases e) (hkp b o e)
  intro k
  induction k with
  | zero =>
    intro i s hk' hi hst hkp hS hR
    have hin : i = n := by omega
    subst hin
    refine codeAny_builtin F.entry_set_update_loop ?_
    rw [Around.under_plainId F.plain_set_update_loop _]
    show wpAny _ A.in1 (pyNext (.ref I) >>= _) _ _ s
    refine wpAny_bind (W.done s _ _ hst fun s' hm => ?_)
    show wpAny _ A.in1 (ret Value.none) _ _ s'
    have hkp' := keepM hm hkp
    exact wpAny_pure (hR s' (hm.mono hsub) (hS.keep fun o e => hm.heap S o hSw e) hkp')
  | succ k ih =>
    intro i s hk' hi hst hkp hS hR
    have hlt : i < n := by omega
    refine codeAny_builtin F.entry_set_update_loop ?_
    rw [Around.under_plainId F.plain_set_update_loop _]
    show wpAny _ A.in1 (pyNext (.ref I) >>= _) _ _ s
    refine wpAny_bind (W.item i s _ _ hlt hst fun v s' hP hst' hm => ?_)
    obtain ⟨z, t, hp, rfl⟩ := hval i v hP
    have hkp' := keepM hm hkp
    have hS' : GotIz w s'.heap S ks i := hS.keep fun o e => hm.heap S o hSw e
    show wpAny _ A.in1 (holding [Value.int z t] (setAdd S (.int z t)) >>= _) _ _ s'
    refine wpAny_bind (wpAny_holding ?_)
    unfold setAdd
    refine wpAny_holding ?_
    refine wpAny_bind ((intKind P w).pyHash (k := z) (intKind_is _ _ _ _) ?_)
    refine gotIz_add (s := { s' with toks := s'.toks + 1 }) hS' hp hU fun b h' hsb hS2 => ?_
    have hkp2 : ∀ b o, h0.get? b = some o → h'.get? b = some o := fun b o e => (hsb.2 b (fun z => by rw [z, hS0] at e; cases e)).trans (hkp' b o e)
    refine wpAny_pure ⟨plainId_quiet F.plain_set_update_loop _, ih (i + 1) _ (by omega) hlt (W.frame _ s' _ _ hst' (Nat.le_add_right _ _) fun b hb o e => ?_) hkp2 hS2 fun s'' hm'' hS'' hkp'' => ?_⟩
    · rw [hsb.2 b (fun h : b = S => hSf (by rw [← h]; exact hb))]; exact e
    · refine hR s'' (Moved.trans W.gtrans ((hm.mono hsub).then_heap (Nat.le_add_right _ _) fun b o hb e => ?_) hm'') hS'' hkp''
      rw [hsb.2 b (fun h : b = S => hb (by rw [h]; exact List.mem_cons_self))]; exact e
set_option maxRecDepth 100000 in
set_option maxHeartbeats 3200000 in
theorem call_setIT {l : Addr} {items : Array Value} (ks : List Int) {Q : Value → Shared → Prop} (hh : A.handled = none) (hl : s.heap.IsTuple l items) (hit : IntsAre items.toList ks)
    (hU : ∀ l : List Int, l.Nodup → (∀ k ∈ l, k ∈ ks) → l.length + 1 < 4096)
    (h : ∀ (h' : Heap) (tk : Nat), GotIz w h' s.heap.objs.size ks ks.length → (∀ b o, s.heap.get? b = some o → h'.get? b = some o) → Q (.ref s.heap.objs.size) { s with heap := h', toks := tk }) :
    wpAny (model P w) A (call (.type "set") [.ref l]) Q E s := by
  have hisz : items.size = ks.length := by
    rw [← Array.length_toList]
    exact hit.length
  obtain ⟨c, tl, hmro⟩ := F.called_set.mro
  have hmade := F.called_set.made
  have hsub := F.called_set.sub
  refine wpAny_call (codeAny_of_tree ?_)
  show wpAny _ _ (callAny (.type "set") _) _ _ _
  refine wpAny_pure ⟨Code.quiet_builtin _ (by decide +kernel), codeAny_builtin F.entry_type_call ?_⟩
  rw [Around.under_plain (weight_type_call_type "set" [.ref l] []) rfl]
  have h1 := F.called_set.notType
  have h2 := F.called_set.canCreate
  have hct := F.typeCall_set_1 (.ref l)
  repeat (any_goals (first | assumption | wp_step))

  refine codeAny_mono (code_set_led1 (.ref l) (E := E) (Q₁ := fun obj s₁ => obj = .ref s.heap.objs.size ∧ s₁ = { s with heap := s.heap.push { cls := .type "set", dict := none, data := .set #[] 0 (.fresh 0 0 (!w.params.followText "set-order")) } }) ⟨rfl, rfl⟩) fun r s₁ hr => ?_
  cases r with
  | error e => exact hr
  | ok fl =>
    cases fl with
    | ret obj =>
      obtain ⟨rfl, rfl⟩ := hr
      have hS : (s.heap.push { cls := .type "set", dict := none, data := .set #[] 0 (.fresh 0 0 (!w.params.followText "set-order")) }).get? s.heap.objs.size = some { cls := .type "set", dict := none, data := .set #[] 0 (.fresh 0 0 (!w.params.followText "set-order")) } := Heap.get?_push_size _ rfl
      have hT : Shared.TypeIs { s with heap := s.heap.push { cls := .type "set", dict := none, data := .set #[] 0 (.fresh 0 0 (!w.params.followText "set-order")) } } (.ref s.heap.objs.size) "set" := ⟨_, hS, rfl⟩
      have hli := F.called_set.init.lookup
      have hbi := F.called_set.init.bind (.ref s.heap.objs.size)
      repeat (any_goals (first | assumption | wp_step))

      refine codeAny_mono (codeAny_call_builtin (R := wants (fun r s₂ => r = .none ∧ ∃ h' tk, s₂ = { s with heap := h', toks := tk } ∧ GotIz w h' s.heap.objs.size ks ks.length ∧
          (∀ b o, s.heap.get? b = some o → h'.get? b = some o)) E) F.called_set.init.plain F.entry_set_init (check_set_init_1 hT ?_)) fun r₂ s₂ hr₂ => ?_
      · obtain ⟨ol, hol, hcl, nl, hdl⟩ := hl
        obtain ⟨ocls, odict, odata, oslots⟩ := ol
        simp only at hcl hdl
        subst hcl; subst hdl
        have hol' : (s.heap.push { cls := .type "set", dict := none, data := .set #[] 0 (.fresh 0 0 (!w.params.followText "set-order")) }).get? l = some { cls := .type "tuple", dict := odict, data := .seq items nl, slots := oslots } := Heap.get?_push_of_some _ hol
        have hsls := F.sub_tuple_set
        have hslf := F.sub_tuple_frozenset
        have hne : (Value.type "tuple" == Value.type "dict") = false := by decide
        have hl1 : (s.heap.push { cls := .type "set", dict := none, data := .set #[] 0 (.fresh 0 0 (!w.params.followText "set-order")) }).IsTuple l items := ⟨_, hol', rfl, nl, rfl⟩
        unfold Builtin.«set.__init__» noKeywords Builtin.Frozenset.updateFrom
        generalize hPI : pyIter = PI
        wp_walk
        subst hPI

        refine wpAny_pyIter_tuple hl1 ?_
        refine wpAny_bind (wpAny_runValue ?_)
        have hlS : l < s.heap.objs.size := Heap.lt_size hol
        have hh3 : A.in1.in1.in1.handled = none := by simp [hh]
        have hz1 : (s.heap.push { cls := .type "set", dict := none, data := .set #[] 0 (.fresh 0 0 (!w.params.followText "set-order")) }).objs.size = s.heap.objs.size + 1 := Heap.size_push ..
        have hneI : l ≠ (s.heap.push { cls := .type "set", dict := none, data := .set #[] 0 (.fresh 0 0 (!w.params.followText "set-order")) }).objs.size := by
          rw [Heap.size_push]; exact Nat.ne_of_lt (Nat.lt_succ_of_lt hlS)
        have hSf : s.heap.objs.size ∉ [(s.heap.push { cls := .type "set", dict := none, data := .set #[] 0 (.fresh 0 0 (!w.params.followText "set-order")) }).objs.size, l] := by
          rw [Heap.size_push]; simp only [List.mem_cons, List.mem_singleton, List.not_mem_nil, or_false, not_or]
          exact ⟨Nat.ne_of_lt (Nat.lt_succ_self _), Nat.ne_of_gt hlS⟩
        have hval : ∀ (i : Nat) (v : Value), items[i]? = some v → ∃ k t, ks[i]? = some k ∧ v = .int k t := fun i v hv => by
          have q : items.toList[i]? = some v := by rw [Array.getElem?_toList]; exact hv
          obtain ⟨k, t, e1, e2⟩ := ints_item hit i v q
          exact ⟨k, t, e2, e1⟩
        have none_of : ∀ b, s.heap.objs.size ≤ b → s.heap.get? b = none := fun b hb => by
          cases q : s.heap.get? b with
          | none => rfl
          | some o => exact absurd (Nat.lt_of_lt_of_le (Heap.lt_size q) hb) (Nat.lt_irrefl _)
        refine setIz_update ((Walks.tuple hh3 _ l hneI items).toS) s.heap.objs.size
          hSf ks hisz hU hval s.heap (none_of _ (Nat.le_refl _)) (fun b hb => none_of b (by
            rw [List.mem_singleton.mp hb, Heap.size_push]
            exact Nat.le_succ _)) (items.size - 0) 0 _ (by omega) (Nat.zero_le _)
          ⟨⟨_, Heap.get?_push_size _ rfl, rfl, rfl⟩, (hl1.push _)⟩ (fun b o e => Heap.get?_push_of_some _ (Heap.get?_push_of_some _ e)) ?hS0 ?hR
        case hS0 =>
          have hget : ((s.heap.push { cls := .type "set", dict := none, data := .set #[] 0 (.fresh 0 0 (!w.params.followText "set-order")) }).push { cls := .type "tuple_iterator", data := .fields #[.ref l, .int 0 0] }).get? s.heap.objs.size
              = some { cls := .type "set", dict := none, data := .set #[] 0 (.fresh 0 0 (!w.params.followText "set-order")) } := Heap.get?_push_of_some _ hS
          exact gotIz_fresh hget
        case hR =>
          intro s' hm hS' hkp
          obtain ⟨h', g2, d', tk', os'⟩ := s'
          have eg : g2 = s.gens := hm.gens
          have ed : d' = s.drawn := hm.drawn
          have eo : os' = s.os := hm.os
          subst eg; subst ed; subst eo
          show wpAny _ _ _ _ _ _
          refine wpAny_pure ?_
          show wpAny _ _ (ret Value.none) _ _ _
          rw [hisz] at hS'
          exact wpAny_pure ⟨rfl, h', tk', rfl, hS', hkp⟩

      · cases r₂ with
        | error e => exact hr₂
        | ok fl₂ =>
          cases fl₂ with
          | ret r =>
            obtain ⟨rfl, h', tk, rfl, hS', hk'⟩ := hr₂
            repeat (any_goals (first | assumption | wp_step))
            exact h _ _ hS' hk'
          | _ => exact hr₂.elim
    | _ => exact hr.elim
set_option maxRecDepth 100000 in
set_option maxHeartbeats 3200000 in
theorem call_setNT {l : Addr} {items : Array Value} (ks : List NKey) {Q : Value → Shared → Prop} (hh : A.handled = none) (hl : s.heap.IsTuple l items) (hit : items.toList = ks.map fun p => Value.ref p.1)
    (hk : ∀ p ∈ ks, IsN s.heap p.2 p.1) (hu : A.units + 64 < cLine) (hU : ∀ l : List NestedKey, l.Nodup → (∀ k ∈ l, k ∈ ks.map (·.2)) → l.length < 4096)
    (h : ∀ (h' : Heap) (tk : Nat), GotN w h' s.heap.objs.size ks ks.length → (∀ b o, s.heap.get? b = some o → h'.get? b = some o) → Q (.ref s.heap.objs.size) { s with heap := h', toks := tk }) :
    wpAny (model P w) A (call (.type "set") [.ref l]) Q E s := by
  have hisz : items.size = ks.length := by
    rw [← Array.length_toList, hit, List.length_map]
  obtain ⟨c, tl, hmro⟩ := F.called_set.mro
  have hmade := F.called_set.made
  have hsub := F.called_set.sub
  refine wpAny_call (codeAny_of_tree ?_)
  show wpAny _ _ (callAny (.type "set") _) _ _ _
  refine wpAny_pure ⟨Code.quiet_builtin _ (by decide +kernel), codeAny_builtin F.entry_type_call ?_⟩
  rw [Around.under_plain (weight_type_call_type "set" [.ref l] []) rfl]
  have h1 := F.called_set.notType
  have h2 := F.called_set.canCreate
  have hct := F.typeCall_set_1 (.ref l)
  repeat (any_goals (first | assumption | wp_step))

  refine codeAny_mono (code_set_led1 (.ref l) (E := E) (Q₁ := fun obj s₁ => obj = .ref s.heap.objs.size ∧ s₁ = { s with heap := s.heap.push { cls := .type "set", dict := none, data := .set #[] 0 (.fresh 0 0 (!w.params.followText "set-order")) } }) ⟨rfl, rfl⟩) fun r s₁ hr => ?_
  cases r with
  | error e => exact hr
  | ok fl =>
    cases fl with
    | ret obj =>
      obtain ⟨rfl, rfl⟩ := hr
      have hS : (s.heap.push { cls := .type "set", dict := none, data := .set #[] 0 (.fresh 0 0 (!w.params.followText "set-order")) }).get? s.heap.objs.size = some { cls := .type "set", dict := none, data := .set #[] 0 (.fresh 0 0 (!w.params.followText "set-order")) } := Heap.get?_push_size _ rfl
      have hT : Shared.TypeIs { s with heap := s.heap.push { cls := .type "set", dict := none, data := .set #[] 0 (.fresh 0 0 (!w.params.followText "set-order")) } } (.ref s.heap.objs.size) "set" := ⟨_, hS, rfl⟩
      have hli := F.called_set.init.lookup
      have hbi := F.called_set.init.bind (.ref s.heap.objs.size)
      repeat (any_goals (first | assumption | wp_step))

      refine codeAny_mono (codeAny_call_builtin (R := wants (fun r s₂ => r = .none ∧ ∃ h' tk, s₂ = { s with heap := h', toks := tk } ∧ GotN w h' s.heap.objs.size ks ks.length ∧
          (∀ b o, s.heap.get? b = some o → h'.get? b = some o)) E) F.called_set.init.plain F.entry_set_init (check_set_init_1 hT ?_)) fun r₂ s₂ hr₂ => ?_
      · obtain ⟨ol, hol, hcl, nl, hdl⟩ := hl
        obtain ⟨ocls, odict, odata, oslots⟩ := ol
        simp only at hcl hdl
        subst hcl; subst hdl
        have hol' : (s.heap.push { cls := .type "set", dict := none, data := .set #[] 0 (.fresh 0 0 (!w.params.followText "set-order")) }).get? l = some { cls := .type "tuple", dict := odict, data := .seq items nl, slots := oslots } := Heap.get?_push_of_some _ hol
        have hsls := F.sub_tuple_set
        have hslf := F.sub_tuple_frozenset
        have hne : (Value.type "tuple" == Value.type "dict") = false := by decide
        have hl1 : (s.heap.push { cls := .type "set", dict := none, data := .set #[] 0 (.fresh 0 0 (!w.params.followText "set-order")) }).IsTuple l items := ⟨_, hol', rfl, nl, rfl⟩
        unfold Builtin.«set.__init__» noKeywords Builtin.Frozenset.updateFrom
        generalize hPI : pyIter = PI
        wp_walk
        subst hPI

        refine wpAny_pyIter_tuple hl1 ?_
        refine wpAny_bind (wpAny_runValue ?_)
        have hlS : l < s.heap.objs.size := Heap.lt_size hol
        have hh3 : A.in1.in1.in1.handled = none := by simp [hh]
        have hz1 : (s.heap.push { cls := .type "set", dict := none, data := .set #[] 0 (.fresh 0 0 (!w.params.followText "set-order")) }).objs.size = s.heap.objs.size + 1 := Heap.size_push ..
        have hneI : l ≠ (s.heap.push { cls := .type "set", dict := none, data := .set #[] 0 (.fresh 0 0 (!w.params.followText "set-order")) }).objs.size := by
          rw [Heap.size_push]; exact Nat.ne_of_lt (Nat.lt_succ_of_lt hlS)
        have hSf : s.heap.objs.size ∉ [(s.heap.push { cls := .type "set", dict := none, data := .set #[] 0 (.fresh 0 0 (!w.params.followText "set-order")) }).objs.size, l] := by
          rw [Heap.size_push]; simp only [List.mem_cons, List.mem_singleton, List.not_mem_nil, or_false, not_or]
          exact ⟨Nat.ne_of_lt (Nat.lt_succ_self _), Nat.ne_of_gt hlS⟩
        have hval : ∀ (i : Nat) (v : Value), items[i]? = some v → ∃ p, ks[i]? = some p ∧ v = .ref p.1 := fun i v hv => by
          have q : items.toList[i]? = some v := by rw [Array.getElem?_toList]; exact hv
          rw [hit, List.getElem?_map] at q
          cases hq : ks[i]? with
          | none => rw [hq] at q; cases q
          | some p =>
            rw [hq] at q
            exact ⟨p, rfl, (Option.some.inj q).symm⟩
        have none_of : ∀ b, s.heap.objs.size ≤ b → s.heap.get? b = none := fun b hb => by
          cases q : s.heap.get? b with
          | none => rfl
          | some o => exact absurd (Nat.lt_of_lt_of_le (Heap.lt_size q) hb) (Nat.lt_irrefl _)
        refine setN_update ((Walks.tuple hh3 _ l hneI items).toS) s.heap.objs.size
          hSf ks hisz hU hval s.heap hk (by simp only [Around.in1_units]; omega) (none_of _ (Nat.le_refl _)) (fun b hb => none_of b (by
            rw [List.mem_singleton.mp hb, Heap.size_push]
            exact Nat.le_succ _)) (items.size - 0) 0 _ (by omega) (Nat.zero_le _)
          ⟨⟨_, Heap.get?_push_size _ rfl, rfl, rfl⟩, (hl1.push _)⟩ (fun b o e => Heap.get?_push_of_some _ (Heap.get?_push_of_some _ e)) ?hS0 ?hR
        case hS0 =>
          have hget : ((s.heap.push { cls := .type "set", dict := none, data := .set #[] 0 (.fresh 0 0 (!w.params.followText "set-order")) }).push { cls := .type "tuple_iterator", data := .fields #[.ref l, .int 0 0] }).get? s.heap.objs.size
              = some { cls := .type "set", dict := none, data := .set #[] 0 (.fresh 0 0 (!w.params.followText "set-order")) } := Heap.get?_push_of_some _ hS
          exact gotN_fresh hget
        case hR =>
          intro s' hm hS' hkp
          obtain ⟨h', g2, d', tk', os'⟩ := s'
          have eg : g2 = s.gens := hm.gens
          have ed : d' = s.drawn := hm.drawn
          have eo : os' = s.os := hm.os
          subst eg; subst ed; subst eo
          show wpAny _ _ _ _ _ _
          refine wpAny_pure ?_
          show wpAny _ _ (ret Value.none) _ _ _
          rw [hisz] at hS'
          exact wpAny_pure ⟨rfl, h', tk', rfl, hS', hkp⟩

      · cases r₂ with
        | error e => exact hr₂
        | ok fl₂ =>
          cases fl₂ with
          | ret r =>
            obtain ⟨rfl, h', tk, rfl, hS', hk'⟩ := hr₂
            repeat (any_goals (first | assumption | wp_step))
            exact h _ _ hS' hk'
          | _ => exact hr₂.elim
    | _ => exact hr.elim
end
end Tt

/-! sorted(set(t)), t a tuple, told of data. -/
namespace Tt
open PySem PySem.Spec PyProof.Rows L2 PySem.W
def SetIzO (w : World) (a : Addr) (ks : List Int) : HO := .ext fun h => ∃ c, SetR w h a (fun j => decide (j ∈ ks)) c
theorem setIzO_new {P : Program} {w : World} {H : Hp} {h : Heap} {a : Addr} {ks : List Int} {c : Nat} (R : SetR w h a (fun j => decide (j ∈ ks)) c) : ObjOk P w H h a (SetIzO w a ks) := by
  have ⟨o, es, ep, t, ho, r⟩ := R
  exact ⟨⟨c, R⟩, ⟨o, ho⟩, fun h1 h2 ⟨c', p⟩ k => ⟨c', SetR.at p k⟩⟩
theorem vals_intsE {us : List Value} {ks : List Int} : EachIs (fun v k => ∃ t, v = Value.int k t) us ks → Vals (ks.map V.int) us := by
  intro h
  induction h with
  | nil => exact .nil
  | cons r _ ih => exact .cons r ih
theorem good_each : ∀ {es : List (Int × Value)}, (∀ e ∈ es, GoodE e) → EachIs (fun v k => ∃ t, v = Value.int k t) (es.map (·.2)) (es.map keyOf)
  | [], _ => .nil
  | e :: es, g => by
    obtain ⟨k, t, e1, _⟩ := g e List.mem_cons_self
    refine .cons ⟨t, ?_⟩ (good_each fun x m => g x (List.mem_cons_of_mem _ m))
    have hk : keyOf e = k := by unfold keyOf; rw [e1]
    rw [hk]
    exact e1
theorem intsAre_vals : ∀ {us : List Value} {ks : List Int}, Vals (ks.map V.int) us → IntsAre us ks
  | _, [], .nil => .nil
  | _, k :: ks, .cons r t => by
    obtain ⟨tk, rfl⟩ := r
    exact .cons k tk (intsAre_vals t)
theorem ints_dq {I : Hp} : ∀ {ks : List Int} {xs : List V}, DqAll I xs (ks.map PyData.int) → xs = ks.map V.int
  | [], _, h => by cases h; rfl
  | k :: ks, _, h => by
    rw [List.map_cons] at h
    cases h with
    | cons h t =>
      cases h
      rw [ints_dq t]
      rfl
theorem alikeInt (a b : Int) : alike (PyData.int a) (PyData.int b) = true := by simp [alike]
section
variable {X : Cx}
theorem cr_setIz (hc : X.calm = true) : CallR X (.type "set") (fun xs H Q => ∃ (l : Addr) (ks : List Int), xs = [V.ref l] ∧ SqT X.K H l (ks.map V.int) ∧ (∀ l : List Int, l.Nodup → (∀ k ∈ l, k ∈ ks) → l.length + 1 < 4096) ∧
    ∀ a, H a = none → Q (.ref a) (upd H a (SetIzO X.w a ks))) := by
  intro pins s σ H xs us Q Iv r h
  obtain ⟨l, ks, rfl, hl, hU, q⟩ := h
  rw [Vals.ref1 r]
  obtain ⟨its, rv, pl, hz⟩ := Iv.tuple hl
  have hn : H s.heap.objs.size = none := Iv.hok.fresh (Nat.le_refl _)
  refine call_setIT (P := X.prog) (w := X.w) ks (Iv.ok.hd hc) (show s.heap.IsTuple l its.toArray from pl) (by simpa using intsAre_vals rv) hU fun h' tk g kp => ?_
  obtain ⟨c, R⟩ := g
  rw [List.take_length] at R
  exact ⟨.ref s.heap.objs.size, upd H s.heap.objs.size (SetIzO X.w s.heap.objs.size ks), Iv.laid (t' := tk) kp (Nat.le_refl _) (setIzO_new R), rfl, q _ hn⟩
theorem cr_sortedIz (hc : X.calm = true) (hu : X.A.units + 64 < cLine) : CallR X (.builtin "sorted") (fun vs H Q => ∃ (a : Addr) (ks l : List Int), vs = [V.ref a] ∧ H a = some (SetIzO X.w a ks) ∧ l.Nodup ∧ (∀ k, k ∈ l ↔ k ∈ ks) ∧
    ∀ p, H p = none → Q (.ref p) (upd H p (.lst ((l.mergeSort (dataLe false PyData.int)).map V.int)))) := by
  intro pins s σ H vs us Q Iv r h
  obtain ⟨a, ks, l, rfl, ha, nl, ml, q⟩ := h
  obtain ⟨c, R0⟩ : ∃ c, SetR X.w s.heap a (fun j => decide (j ∈ ks)) c := (Iv.hok a _ ha).1
  obtain ⟨o, es, ep, t, ho, hex, hd, g, nd, hm, hb, hf, hn0, hr, hl⟩ := R0
  rw [Vals.ref1 r]
  have hsz : es.size ≤ sizeLine := by unfold scanBound at hb; rw [sizeLine_eq]; omega
  have pK : (es.toList.map keyOf).Perm l := (List.perm_ext_iff_of_nodup nd nl).mpr fun k => by rw [← hm k, ml k, decide_eq_true_eq]
  refine sorted_collS (enc := PyData.int) (R := fun v k => ∃ t, v = Value.int k t) (P := fun vs js => EachIs (fun v k => ∃ t, v = Value.int k t) vs js ∧ js.Perm l)
    (fun {E' Q'} k => collect_set (A := X.A.in1) (Iv.ok.hd hc) ⟨o, ho, hex.1, hd⟩ hf hb hr hl fun s1 vs k1 hz g1 o1 pm => ?_) (fun vs js ⟨h1, h2⟩ => ?_) fun s1 h' vs js out n ⟨h1, h2⟩ kp hz hg hos hl2 eo hg2 => ?_
  · obtain ⟨js, a1, a2⟩ := each_perm pm (good_each g)
    exact k s1 vs js k1 hz g1 o1 ⟨a1, a2.trans pK⟩
  · have hlen : js.length ≤ sizeLine := by
      rw [h2.length_eq, ← pK.length_eq, List.length_map, Array.length_toList]
      exact hsz
    exact ⟨h1, h1.mono fun v k ⟨t, e⟩ => ⟨[], by rw [e]; exact .int _ _⟩, AllAlike.of alikeInt, Sortable.others fun b => ⟨by simp, fun xs => by simp⟩, hlen, fun b _ => by simp [PyData.depth]; omega⟩
  · have hlen : js.length ≤ sizeLine := by
      rw [h2.length_eq, ← pK.length_eq, List.length_map, Array.length_toList]
      exact hsz
    have hn : H s1.heap.objs.size = none := Iv.hok.fresh hz
    rw [perm_sort alikeInt (fun a b h => by simpa [PyData.eqv] using h) h2] at eo
    have hv : Vals ((l.mergeSort (dataLe false PyData.int)).map V.int) out := vals_intsE eo
    have J : Inv X pins σ (upd H s1.heap.objs.size (.lst ((l.mergeSort (dataLe false PyData.int)).map V.int))) { s with heap := h', gens := s1.gens, drawn := s1.drawn, toks := s1.toks } :=
      Iv.call (ch := []) (Un.laid kp hz hn) (Iv.hok.laid kp hz ⟨by rw [hv.length, hl2]; exact hlen, out, n, hv, hg2⟩) (by rw [hg]; exact Iv.bare) (fun _ z => nomatch z)
    have e : ({ s1 with heap := h' } : Shared) = { s with heap := h', gens := s1.gens, drawn := s1.drawn, toks := s1.toks } := by
      cases s1
      cases s
      cases hos
      rfl
    rw [e]
    exact ⟨.ref s1.heap.objs.size, _, J, rfl, q _ hn⟩
theorem cr_setNT (hc : X.calm = true) (hu : X.A.units + 64 < cLine) : CallR X (.type "set") (fun xs H Q => ∃ (l : Addr) (ks : List NKey), xs = [V.ref l] ∧ SqT X.K H l (ks.map fun p => V.ref p.1) ∧ (∀ p ∈ ks, KeyAt H p.1 p.2) ∧ (∀ l : List NestedKey, l.Nodup → (∀ k ∈ l, k ∈ ks.map (·.2)) → l.length < 4096) ∧
    ∀ a L, H a = none → (∀ p ∈ L, p ∈ ks) → (∀ p ∈ ks, p.2 ∈ L.map (·.2)) → (L.map (·.2)).Nodup → Q (.ref a) (upd H a (SetNO X.w a L))) := by
  intro pins s σ H xs us Q Iv r h
  obtain ⟨l, ks, rfl, hl, hk, hU, q⟩ := h
  rw [Vals.ref1 r]
  obtain ⟨its, rv, pl, hz⟩ := Iv.tuple hl
  have hn : H s.heap.objs.size = none := Iv.hok.fresh (Nat.le_refl _)
  refine call_setNT (P := X.prog) (w := X.w) ks (Iv.ok.hd hc) (show s.heap.IsTuple l its.toArray from pl) (by simpa using refs_vals rv) (fun p m => key_n (P := X.prog) (w := X.w) Iv.hok (hk p m)) hu hU fun h' tk g kp => ?_
  obtain ⟨L, es, ep, t, R, g1, g2⟩ := g
  rw [List.take_length] at g1 g2
  exact ⟨.ref s.heap.objs.size, upd H s.heap.objs.size (SetNO X.w s.heap.objs.size L), Iv.laid (t' := tk) kp (Nat.le_refl _) (setNO_new R), rfl, q _ L hn g1 g2 R.nd⟩
end
section
variable {X : Cx} {m : Bool} {ρ ρ1 : List Sl} {W : Wx} {pos p p2 q2 : Pos} {a : Expr} {Q : Bool → D → List Sl → Prop}
/-- sorted(set(x)), x a tuple of whole numbers -/
theorem em_sortedSetI (hc : X.calm = true) (hu : X.A.units + 64 < cLine) (hms : X.mg "sorted" = none) (hset : X.mg "set" = none)
    (h : EM m X a ρ W fun _ d ρ1 => ∃ ks l : List Int, d = .tuple (ks.map .int) ∧ (∀ l : List Int, l.Nodup → (∀ k ∈ l, k ∈ ks) → l.length + 1 < 4096) ∧ l.Nodup ∧ (∀ k, k ∈ l ↔ k ∈ ks) ∧ Q true (.list ((l.mergeSort (dataLe false PyData.int)).map .int)) ρ1)
    (hg : Gl X "sorted" := by rfl) (hg2 : Gl X "set" := by rfl)
    (h1 : starEach [Expr.Call (.Name "set" p2) [a] [] q2] X.env = (false, eval (Expr.Call (.Name "set" p2) [a] [] q2) X.env) :: starEach [] X.env := by rfl) (h2 : (backTo pos (starEach [] X.env)).any (·.1) = false := by rfl)
    (h3 : starEach [a] X.env = (false, eval a X.env) :: starEach [] X.env := by rfl) (h4 : (backTo q2 (starEach [] X.env)).any (·.1) = false := by rfl) :
    EM m X (.Call (.Name "sorted" p) [.Call (.Name "set" p2) [a] [] q2] [] pos) ρ W Q := fun σ I H ok xk R f => by
  refine ⟨_, pe_callB (cr_sortedIz hc hu) hg hms PyProof.Rows.boot_sorted (pa_cons (pe_callTy (cr_setIz hc) hg2 hset PyProof.Rows.boot_set (pa_cons pe_w pa_nil h3) (by decide) (by decide) h3 h4) pa_nil h1) (by decide) (by decide) h1 h2, ?_⟩
  refine h.run ok xk fun v _ d ρ1 I1 H1 g1 r1 ⟨ks, l, e, hU, nl, ml, q⟩ => ?_
  subst e
  obtain ⟨t, xs, rfl, ht, tt⟩ := r1.tup
  have ex : xs = ks.map V.int := ints_dq tt
  subst ex
  have s1 := (g1.env ok).sub
  have k := Res.fin (Q1 := fun o z => Q o z ρ1) ok g1 f fun _ _ h => h
  refine ⟨t, ks, rfl, SqT.of (s1.tup ht), hU, fun a n1 => ⟨a, ks, l, rfl, upd_same, nl, ml, fun b n2 => ?_⟩⟩
  have nb : H1 b = none := by
    by_cases e : b = a
    · subst e; exact n1
    · rw [upd_ne e] at n2; exact n2
  have gr1 := Grow.dark (o := SetIzO X.w a ks) s1 n1
  have gr2 := Grow.dark (o := .lst ((l.mergeSort (dataLe false PyData.int)).map V.int)) gr1.sub n2
  refine k _ true _ I1 _ (gr1.trans gr2) ⟨b, _, _, rfl, rfl, nb, s1.nn nb, upd_same, ?_⟩ q
  generalize l.mergeSort (dataLe false PyData.int) = z
  induction z with
  | nil => exact .nil
  | cons x z ih => exact .cons (.int x) ih
variable {β : Type} {enc : β → D} {dec : β → List NestedKey}
/-- sorted(set(x)), x a tuple of nested tuples -/
theorem em_sortedSetNT (he : ∀ b, enc b = (NestedKey.tup (dec b)).data) (hdp : ∀ b, (NestedKey.tup (dec b)).depth ≤ 8) (hinj : ∀ a b, dec a = dec b → a = b) (al : ∀ a b, alike (enc a) (enc b) = true) (inj : ∀ a b, PyData.eqv (enc a) (enc b) = true → a = b)
    (hc : X.calm = true) (hu : X.A.units + 64 < cLine) (hms : X.mg "sorted" = none) (hset : X.mg "set" = none)
    (h : EM m X a ρ W fun _ d ρ1 => ∃ bs : List β, d = .tuple (bs.map enc) ∧ (∀ l : List β, l.Nodup → (∀ b ∈ l, b ∈ bs) → l.length < 4096 ∧ Sorts enc l) ∧ ∀ l : List β, l.Nodup → (∀ b, b ∈ l ↔ b ∈ bs) → Q true (.list ((l.mergeSort (dataLe false enc)).map enc)) ρ1)
    (hg : Gl X "sorted" := by rfl) (hg2 : Gl X "set" := by rfl)
    (h1 : starEach [Expr.Call (.Name "set" p2) [a] [] q2] X.env = (false, eval (Expr.Call (.Name "set" p2) [a] [] q2) X.env) :: starEach [] X.env := by rfl) (h2 : (backTo pos (starEach [] X.env)).any (·.1) = false := by rfl)
    (h3 : starEach [a] X.env = (false, eval a X.env) :: starEach [] X.env := by rfl) (h4 : (backTo q2 (starEach [] X.env)).any (·.1) = false := by rfl) :
    EM m X (.Call (.Name "sorted" p) [.Call (.Name "set" p2) [a] [] q2] [] pos) ρ W Q := fun σ I H ok xk R f => by
  refine ⟨_, pe_callB (cr_sortedNS hc hu al inj) hg hms PyProof.Rows.boot_sorted (pa_cons (pe_callTy (cr_setNT hc hu) hg2 hset PyProof.Rows.boot_set (pa_cons pe_w pa_nil h3) (by decide) (by decide) h3 h4) pa_nil h1) (by decide) (by decide) h1 h2, ?_⟩
  refine h.run ok xk fun v _ d ρ1 J H1 gJ rJ q1 => ?_
  obtain ⟨bs, rfl, hS, q⟩ := q1
  obtain ⟨l, xs, rfl, hl, t⟩ := rJ.tup
  obtain ⟨ks, e1, e2, e3⟩ := keys_of he hdp t
  subst e1
  have sJ := (gJ.env ok).sub
  have k := Res.fin (Q1 := fun o z => Q o z ρ1) ok gJ f fun _ _ h => h
  have nodup_of : ∀ js : List β, (js.map fun b => NestedKey.tup (dec b)).Nodup → js.Nodup := fun js n => List.Pairwise.of_map _ (fun _ _ ne e => ne (by rw [e])) n
  refine ⟨l, ks, rfl, SqT.of (sJ.tup hl), fun p m => ⟨Dq.sub sJ (e3 p m).1, (e3 p m).2⟩, fun ls n m => ?_, fun a L n1 m1 m2 nd => ?_⟩
  · rw [e2] at m
    obtain ⟨js, rfl, mj⟩ := pick_keys m
    rw [List.length_map]
    exact (hS js (nodup_of js n) mj).1
  · obtain ⟨js, ej, mj⟩ := pick_keys (bs := bs) (dec := dec) (ls := L.map (·.2)) fun j hj => by
      obtain ⟨p, hp, rfl⟩ := List.mem_map.mp hj
      rw [← e2]
      exact List.mem_map.mpr ⟨p, m1 p hp, rfl⟩
    have nj : js.Nodup := nodup_of js (by rw [← ej]; exact nd)
    have gr1 := Grow.dark (o := SetNO X.w a L) sJ n1
    refine ⟨J, js, a, L, rfl, upd_same, gr1.sub, dq_keys he ej fun p hp => e3 p (m1 p hp), (hS js nj mj).2, fun b ys n2 ty => ?_⟩
    have nb : H1 b = none := by
      by_cases e : b = a
      · subst e; exact n1
      · rw [upd_ne e] at n2; exact n2
    have gr2 := Grow.dark (o := .lst ys) gr1.sub n2
    refine k _ true _ J _ (gr1.trans gr2) ⟨b, ys, _, rfl, rfl, nb, sJ.nn nb, upd_same, ty⟩ (q js nj fun c => ⟨mj c, fun hc => ?_⟩)
    have h3 : NestedKey.tup (dec c) ∈ ks.map (·.2) := by rw [e2]; exact List.mem_map.mpr ⟨c, hc, rfl⟩
    obtain ⟨p, hp, ep⟩ := List.mem_map.mp h3
    have h4 := m2 p hp
    rw [ej, ep] at h4
    obtain ⟨c', hc', ec⟩ := List.mem_map.mp h4
    injection ec with ec
    rw [← hinj c' c ec]
    exact hc'
end
end Tt

namespace Tt
/-! ### heaps, standings, completions -/
def lettersL : List Nat := [97, 98, 99, 100, 101, 102, 103, 104, 105, 106, 107, 108, 109, 110, 111, 112, 113, 114, 115, 116, 117, 118, 119, 120, 121, 122]
/-- a heap -/
structure Hv (h : List (List Nat)) : Prop where
  lo : 2 ≤ h.length
  hi : h.length ≤ 8
  each : ∀ s ∈ h, 1 ≤ s.length ∧ s.length ≤ 10 ∧ ∀ c ∈ s, c ∈ lettersL
  so : h.Pairwise (· ≤ ·)
/-- a shred at a place -/
def shr (h : List (List Nat)) (i : Int) : List Nat := h.getD i.toNat []
def joinT (h : List (List Nat)) (p : List Int) : List Nat := (p.map (shr h)).flatten
def PlacesOk (h : List (List Nat)) (p : List Int) : Prop := ∀ i ∈ p, 0 ≤ i ∧ i < h.length
structure Small (h : List (List Nat)) : Prop where
  len : h.length ≤ 8
  each : ∀ s ∈ h, s.length ≤ 11
theorem Hv.small {h : List (List Nat)} (v : Hv h) : Small h := ⟨by have := v.hi; omega, fun s m => by have := (v.each s m).2.1; omega⟩
theorem shr_at {h : List (List Nat)} {i : Int} (h0 : 0 ≤ i) (h1 : i < h.length) : h[i.toNat]? = some (shr h i) := by
  unfold shr
  rw [List.getD_eq_getElem?_getD, List.getElem?_eq_getElem (by omega)]
  rfl
theorem shr_mem {h : List (List Nat)} {i : Int} (h0 : 0 ≤ i) (h1 : i < h.length) : shr h i ∈ h := List.mem_of_getElem? (shr_at h0 h1)
theorem shr_le {h : List (List Nat)} (s : Small h) (i : Int) : (shr h i).length ≤ 11 := by
  unfold shr
  rw [List.getD_eq_getElem?_getD]
  cases e : h[i.toNat]? with
  | none => exact Nat.zero_le _
  | some x => exact s.each x (List.mem_of_getElem? e)
theorem sum_le (p : List Int) (f : Int → Nat) (b : Nat) (hf : ∀ i, f i ≤ b) : (p.map f).sum ≤ p.length * b := by
  induction p with
  | nil => simp
  | cons i r ih =>
    have := hf i
    rw [List.map_cons, List.sum_cons, List.length_cons, Nat.succ_mul]
    omega
theorem joinT_le {h : List (List Nat)} (s : Small h) (p : List Int) : (joinT h p).length ≤ p.length * 11 := by
  unfold joinT
  rw [List.length_flatten, List.map_map]
  exact sum_le p _ 11 fun i => shr_le s i
theorem joinT_app (h : List (List Nat)) (a b : List Int) : joinT h (a ++ b) = joinT h a ++ joinT h b := by simp [joinT]
theorem joinT_cons (h : List (List Nat)) (p : Int) (b : List Int) : joinT h (p :: b) = shr h p ++ joinT h b := by simp [joinT]
theorem joinT_nil (h : List (List Nat)) : joinT h [] = [] := rfl
/-- what is left over -/
def lo (r s : List Nat) : Option (List Nat) := if s.isPrefixOf r then some (r.drop s.length) else if r.isPrefixOf s then some (s.drop r.length) else none
def ins (u : List Int) (p : Int) : List Int := (u ++ [p]).mergeSort fun a b => decide (a ≤ b)
abbrev NX := Int × List Int × List Nat
def nx1 (h : List (List Nat)) (u : List Int) (r : List Nat) (i : Nat) : Option NX :=
  if r ≠ [] ∧ (i : Int) ∉ u then (lo r (shr h i)).map fun l => ((i : Int), ins u i, l) else none
def nexts (h : List (List Nat)) (u : List Int) (r : List Nat) : List NX := (List.range h.length).filterMap (nx1 h u r)
def isE (h : List (List Nat)) (u : List Int) (r : List Nat) : Bool := decide (u.length = h.length) && decide (r = [])
def canF (h : List (List Nat)) : Nat → List Int → List Nat → Bool
  | 0, u, r => isE h u r
  | k + 1, u, r => isE h u r || (nexts h u r).any fun x => canF h k x.2.1 x.2.2
def waysF (h : List (List Nat)) : Nat → List Int → List Nat → Nat
  | 0, u, r => if isE h u r then 1 else 0
  | k + 1, u, r => (if isE h u r then 1 else 0) + ((nexts h u r).map fun x => waysF h k x.2.1 x.2.2).sum
/-- a list without repeats, one more -/
def addL (ks : List (List Nat)) (k : List Nat) : List (List Nat) := if k ∈ ks then ks else ks ++ [k]
def tailsF (h : List (List Nat)) : Nat → List Int → List Nat → List (List Nat)
  | 0, u, r => if isE h u r then [[]] else []
  | k + 1, u, r => (nexts h u r).foldl (fun acc x => (tailsF h k x.2.1 x.2.2).foldl (fun acc t => addL acc ((shr h x.1).drop r.length ++ t)) acc) (if isE h u r then [[]] else [])
def rm (h : List (List Nat)) (u : List Int) : Nat := h.length - u.length
def can (h : List (List Nat)) (u : List Int) (r : List Nat) : Bool := canF h (rm h u) u r
def wys (h : List (List Nat)) (u : List Int) (r : List Nat) : Nat := waysF h (rm h u) u r
def tls (h : List (List Nat)) (u : List Int) (r : List Nat) : List (List Nat) := tailsF h (rm h u) u r
/-- the places are different ones of the heap, in order -/
structure Us (h : List (List Nat)) (u : List Int) : Prop where
  lt : u.Pairwise (· < ·)
  ok : PlacesOk h u
theorem perm_ins (u : List Int) (p : Int) : (ins u p).Perm (p :: u) := (List.mergeSort_perm _ _).trans (List.perm_append_comm (l₁ := u) (l₂ := [p]))
theorem ins_length (u : List Int) (p : Int) : (ins u p).length = u.length + 1 := by rw [(perm_ins u p).length_eq, List.length_cons]
theorem ins_us {h : List (List Nat)} {u : List Int} {p : Int} (U : Us h u) (h0 : 0 ≤ p) (h1 : p < h.length) (n : p ∉ u) : Us h (ins u p) := by
  have nd : (ins u p).Nodup := (perm_ins u p).nodup_iff.mpr (List.nodup_cons.mpr ⟨n, U.lt.imp fun h => Int.ne_of_lt h⟩)
  have so : (ins u p).Pairwise fun a b => decide (a ≤ b) = true := List.pairwise_mergeSort (fun a b c h1 h2 => by
    simp only [decide_eq_true_eq] at *
    omega) (fun a b => by
    simp only [Bool.or_eq_true, decide_eq_true_eq]
    omega) _
  refine ⟨?_, fun i hi => ?_⟩
  · refine (so.and nd).imp fun {a b} h => ?_
    have := of_decide_eq_true h.1
    have := h.2
    omega
  · rcases List.mem_cons.mp ((perm_ins u p).mem_iff.mp hi) with rfl | m
    · exact ⟨h0, h1⟩
    · exact U.ok i m
/-- pigeons -/
theorem nodup_le {α : Type} [DecidableEq α] : ∀ (l m : List α), l.Nodup → (∀ x ∈ l, x ∈ m) → l.length ≤ m.length
  | [], _, _, _ => Nat.zero_le _
  | x :: l, m, hn, hs => by
    obtain ⟨h1, h2⟩ := List.nodup_cons.mp hn
    have hx : x ∈ m := hs x List.mem_cons_self
    have ih := nodup_le l (m.erase x) h2 fun y hy => by
      have hne : y ≠ x := fun e => h1 (e ▸ hy)
      exact (List.mem_erase_of_ne hne).2 (hs y (List.mem_cons_of_mem _ hy))
    have e := List.length_erase_of_mem hx
    have hp : 0 < m.length := List.length_pos_of_mem hx
    rw [List.length_cons]
    omega
def rngI (n : Nat) : List Int := (List.range n).map fun (i : Nat) => (i : Int)
theorem rngI_len (n : Nat) : (rngI n).length = n := by simp [rngI]
theorem mem_rngI {n : Nat} {i : Int} : i ∈ rngI n ↔ 0 ≤ i ∧ i < n := by
  unfold rngI
  rw [List.mem_map]
  constructor
  · rintro ⟨a, ha, rfl⟩
    have := List.mem_range.mp ha
    omega
  · intro ⟨h0, h1⟩
    exact ⟨i.toNat, List.mem_range.mpr (by omega), by omega⟩
theorem us_len {h : List (List Nat)} {u : List Int} (U : Us h u) : u.length ≤ h.length := by
  have := nodup_le u (rngI h.length) (U.lt.imp fun h => Int.ne_of_lt h) fun x hx => mem_rngI.mpr (U.ok x hx)
  rwa [rngI_len] at this
theorem us_full {h : List (List Nat)} {u : List Int} (U : Us h u) (e : u.length = h.length) {i : Int} (h0 : 0 ≤ i) (h1 : i < h.length) : i ∈ u := by
  apply Decidable.byContradiction
  intro n
  have := us_len (ins_us U h0 h1 n)
  rw [ins_length] at this
  omega
theorem mem_nexts {h : List (List Nat)} {u : List Int} {r : List Nat} {x : NX} : x ∈ nexts h u r ↔ 0 ≤ x.1 ∧ x.1 < h.length ∧ r ≠ [] ∧ x.1 ∉ u ∧ x.2.1 = ins u x.1 ∧ lo r (shr h x.1) = some x.2.2 := by
  unfold nexts
  rw [List.mem_filterMap]
  constructor
  · rintro ⟨i, hi, e⟩
    unfold nx1 at e
    split at e
    · rename_i c
      obtain ⟨l, hl, e⟩ := Option.map_eq_some_iff.mp e
      subst e
      have := List.mem_range.mp hi
      exact ⟨by simp, by simpa using this, c.1, c.2, rfl, hl⟩
    · cases e
  · rintro ⟨h0, h1, h2, h3, h4, h5⟩
    have e : ((x.1.toNat : Nat) : Int) = x.1 := by omega
    refine ⟨x.1.toNat, List.mem_range.mpr (by omega), ?_⟩
    unfold nx1
    rw [e, if_pos ⟨h2, h3⟩, h5, Option.map_some, ← h4]
theorem next_us {h : List (List Nat)} {u : List Int} {r : List Nat} {x : NX} (U : Us h u) (m : x ∈ nexts h u r) : Us h x.2.1 ∧ x.2.1.length = u.length + 1 ∧ u.length < h.length := by
  obtain ⟨h0, h1, _, h3, h4, _⟩ := mem_nexts.mp m
  have := ins_us U h0 h1 h3
  rw [← h4] at this
  refine ⟨this, by rw [h4, ins_length], ?_⟩
  have := us_len this
  rw [h4, ins_length] at this
  omega
theorem nexts_full {h : List (List Nat)} {u : List Int} {r : List Nat} (U : Us h u) (e : rm h u = 0) : nexts h u r = [] := by
  apply List.eq_nil_iff_forall_not_mem.mpr
  intro x m
  have := (next_us U m).2.2
  unfold rm at e
  omega
theorem next_rm {h : List (List Nat)} {u : List Int} {r : List Nat} {x : NX} (U : Us h u) (m : x ∈ nexts h u r) : rm h u = rm h x.2.1 + 1 := by
  have := next_us U m
  unfold rm
  omega
theorem can_eq {h : List (List Nat)} {u : List Int} {r : List Nat} (U : Us h u) : can h u r = (isE h u r || (nexts h u r).any fun x => can h x.2.1 x.2.2) := by
  unfold can
  cases e : rm h u with
  | zero => rw [nexts_full U e]; simp [canF]
  | succ k =>
    rw [canF]
    congr 1
    apply Bool.eq_iff_iff.mpr
    rw [List.any_eq_true, List.any_eq_true]
    constructor
    · rintro ⟨x, m, hx⟩
      have q := next_rm U m
      refine ⟨x, m, ?_⟩
      rw [show rm h x.2.1 = k by omega]
      exact hx
    · rintro ⟨x, m, hx⟩
      have q := next_rm U m
      refine ⟨x, m, ?_⟩
      rw [show rm h x.2.1 = k by omega] at hx
      exact hx
theorem wys_eq {h : List (List Nat)} {u : List Int} {r : List Nat} (U : Us h u) : wys h u r = (if isE h u r then 1 else 0) + ((nexts h u r).map fun x => wys h x.2.1 x.2.2).sum := by
  unfold wys
  cases e : rm h u with
  | zero => rw [nexts_full U e]; simp [waysF]
  | succ k =>
    rw [waysF]
    congr 2
    refine List.map_congr_left fun x m => ?_
    have q := next_rm U m
    rw [show rm h x.2.1 = k by omega]
def tlsStep (h : List (List Nat)) (r : List Nat) (acc : List (List Nat)) (x : NX) : List (List Nat) := (tls h x.2.1 x.2.2).foldl (fun acc t => addL acc ((shr h x.1).drop r.length ++ t)) acc
theorem foldl_congr {α β : Type} {f g : β → α → β} : ∀ {l : List α} (b : β), (∀ b x, x ∈ l → f b x = g b x) → l.foldl f b = l.foldl g b
  | [], _, _ => rfl
  | x :: l, b, e => by
    rw [List.foldl_cons, List.foldl_cons, e b x List.mem_cons_self]
    exact foldl_congr _ fun b y m => e b y (List.mem_cons_of_mem _ m)
theorem tls_eq {h : List (List Nat)} {u : List Int} {r : List Nat} (U : Us h u) : tls h u r = (nexts h u r).foldl (tlsStep h r) (if isE h u r then [[]] else []) := by
  unfold tls
  cases e : rm h u with
  | zero => rw [nexts_full U e]; simp [tailsF]
  | succ k =>
    rw [tailsF]
    refine foldl_congr _ fun b x m => ?_
    have q := next_rm U m
    unfold tlsStep tls
    rw [show rm h x.2.1 = k by omega]
def begins (h : List (List Nat)) : List (List Int × List Nat) := (List.range h.length).map fun (i : Nat) => ([(i : Int)], shr h i)
def textsU (h : List (List Nat)) : List (List Nat) := (begins h).foldl (fun acc b => (tls h b.1 b.2).foldl (fun acc t => addL acc (b.2 ++ t)) acc) []
def manyW (h : List (List Nat)) : Nat := ((begins h).map fun b => wys h b.1 b.2).sum
/-! ### standings that come -/
def subs {α : Type} : List α → List (List α)
  | [] => [[]]
  | x :: l => subs l ++ (subs l).map (x :: ·)
theorem subs_len {α : Type} (l : List α) : (subs l).length = 2 ^ l.length := by
  induction l with
  | nil => rfl
  | cons x l ih => rw [subs, List.length_append, List.length_map, ih, List.length_cons, Nat.pow_succ]; omega
theorem mem_subs : ∀ {l u : List Int}, l.Pairwise (· < ·) → u.Pairwise (· < ·) → (∀ x ∈ u, x ∈ l) → u ∈ subs l
  | [], [], _, _, _ => List.mem_singleton.mpr rfl
  | [], y :: u, _, _, h => absurd (h y List.mem_cons_self) List.not_mem_nil
  | x :: l, u, hl, hu, h => by
    rw [subs, List.mem_append, List.mem_map]
    rw [List.pairwise_cons] at hl
    cases u with
    | nil => exact .inl (mem_subs hl.2 .nil fun _ m => absurd m List.not_mem_nil)
    | cons y u =>
      rw [List.pairwise_cons] at hu
      by_cases e : y = x
      · subst e
        refine .inr ⟨u, mem_subs hl.2 hu.2 fun z m => ?_, rfl⟩
        rcases List.mem_cons.mp (h z (List.mem_cons_of_mem _ m)) with q | q
        · have := hu.1 z m
          omega
        · exact q
      · refine .inl (mem_subs hl.2 (List.pairwise_cons.mpr hu) fun z m => ?_)
        have hy : y ∈ l := (List.mem_cons.mp (h y List.mem_cons_self)).resolve_left e
        rcases List.mem_cons.mp m with q | q
        · rw [q]; exact hy
        · have h1 := hu.1 z q
          have h2 := hl.1 y hy
          exact (List.mem_cons.mp (h z (List.mem_cons_of_mem _ q))).resolve_left fun w => by omega
theorem rngI_lt (n : Nat) : (rngI n).Pairwise (· < ·) := by
  unfold rngI
  rw [List.pairwise_map]
  exact List.pairwise_lt_range.imp fun h => by omega
/-- a rest that comes: what is behind a place of a shred -/
def Sfx (h : List (List Nat)) (r : List Nat) : Prop := ∃ s ∈ h, ∃ k, r = s.drop k
structure VS (h : List (List Nat)) (u : List Int) (r : List Nat) : Prop where
  us : Us h u
  sf : Sfx h r
def allS (h : List (List Nat)) : List (List Int × List Nat) := (subs (rngI h.length)).flatMap fun u => (h.flatMap fun s => (List.range 12).map s.drop).map fun r => (u, r)
theorem flatMap_len {α β : Type} (f : α → List β) (b : Nat) : ∀ l : List α, (∀ x ∈ l, (f x).length = b) → (l.flatMap f).length = l.length * b
  | [], _ => by simp
  | x :: l, h => by
    rw [List.flatMap_cons, List.length_append, flatMap_len f b l fun y m => h y (List.mem_cons_of_mem _ m), h x List.mem_cons_self, List.length_cons, Nat.succ_mul]
    omega
theorem allS_len {h : List (List Nat)} (s : Small h) : (allS h).length ≤ 60000 := by
  unfold allS
  rw [flatMap_len _ (h.length * 12) _ fun u _ => by rw [List.length_map, flatMap_len _ 12 _ fun x _ => by simp], subs_len, rngI_len]
  have h1 := s.len
  have h2 : 2 ^ h.length ≤ 2 ^ 8 := Nat.pow_le_pow_right (by omega) h1
  calc 2 ^ h.length * (h.length * 12) ≤ 2 ^ 8 * (8 * 12) := Nat.mul_le_mul h2 (by omega)
    _ ≤ 60000 := by decide
theorem mem_allS {h : List (List Nat)} (sm : Small h) {u : List Int} {r : List Nat} (v : VS h u r) : (u, r) ∈ allS h := by
  unfold allS
  rw [List.mem_flatMap]
  refine ⟨u, mem_subs (rngI_lt _) v.us.lt fun x m => mem_rngI.mpr (v.us.ok x m), List.mem_map.mpr ⟨r, ?_, rfl⟩⟩
  obtain ⟨s, hs, k, e⟩ := v.sf
  rw [List.mem_flatMap]
  refine ⟨s, hs, List.mem_map.mpr ?_⟩
  have := sm.each s hs
  by_cases hk : k < 12
  · exact ⟨k, List.mem_range.mpr hk, e.symm⟩
  · refine ⟨11, List.mem_range.mpr (by omega), ?_⟩
    rw [e, List.drop_eq_nil_of_le (by omega : s.length ≤ 11), List.drop_eq_nil_of_le (by omega : s.length ≤ k)]
theorem sfx_le {h : List (List Nat)} (sm : Small h) {r : List Nat} (s : Sfx h r) : r.length ≤ 11 := by
  obtain ⟨s, hs, k, rfl⟩ := s
  have := sm.each s hs
  rw [List.length_drop]
  omega
theorem next_vs {h : List (List Nat)} {u : List Int} {r : List Nat} {x : NX} (v : VS h u r) (m : x ∈ nexts h u r) : VS h x.2.1 x.2.2 := by
  refine ⟨(next_us v.us m).1, ?_⟩
  obtain ⟨h0, h1, _, _, _, hl⟩ := mem_nexts.mp m
  unfold lo at hl
  split at hl
  · obtain ⟨s, hs, k, e⟩ := v.sf
    refine ⟨s, hs, k + (shr h x.1).length, ?_⟩
    rw [← Option.some.inj hl, e, List.drop_drop]
  · split at hl
    · exact ⟨shr h x.1, shr_mem h0 h1, _, (Option.some.inj hl).symm⟩
    · cases hl
theorem begin_vs {h : List (List Nat)} {b : List Int × List Nat} (m : b ∈ begins h) : VS h b.1 b.2 ∧ b.1.length = 1 := by
  unfold begins at m
  obtain ⟨i, hi, rfl⟩ := List.mem_map.mp m
  have hi := List.mem_range.mp hi
  refine ⟨⟨⟨List.pairwise_singleton _ _, fun j hj => ?_⟩, shr h i, shr_mem (by omega) (by omega), 0, rfl⟩, rfl⟩
  rw [List.mem_singleton.mp hj]
  omega
theorem nexts_len {h : List (List Nat)} {u : List Int} {r : List Nat} : (nexts h u r).length ≤ h.length := by
  unfold nexts
  refine Nat.le_trans (List.length_filterMap_le _ _) ?_
  rw [List.length_range]
  exact Nat.le_refl _
/-! ### how many, how long -/
theorem nexts_pl {h : List (List Nat)} {u : List Int} {r : List Nat} : ((nexts h u r).map (·.1)).Nodup := by
  unfold nexts
  have : ∀ n, ((((List.range n).filterMap (nx1 h u r)).map (·.1)).Nodup ∧ ∀ x ∈ (List.range n).filterMap (nx1 h u r), x.1 < (n : Int)) := by
    intro n
    induction n with
    | zero => exact ⟨List.nodup_nil, fun x m => absurd m List.not_mem_nil⟩
    | succ n ih =>
      rw [List.range_succ, List.filterMap_append]
      cases e : nx1 h u r n with
      | none =>
        rw [List.filterMap_cons_none e, List.filterMap_nil, List.append_nil]
        exact ⟨ih.1, fun x m => by have := ih.2 x m; omega⟩
      | some y =>
        rw [List.filterMap_cons_some e, List.filterMap_nil]
        have ey : y.1 = (n : Int) := by
          unfold nx1 at e
          split at e
          · obtain ⟨l, _, rfl⟩ := Option.map_eq_some_iff.mp e
            rfl
          · cases e
        refine ⟨?_, fun x m => ?_⟩
        · rw [List.map_append, List.nodup_append]
          refine ⟨ih.1, List.pairwise_singleton _ _, fun a ha b hb => ?_⟩
          obtain ⟨x, mx, rfl⟩ := List.mem_map.mp ha
          rw [List.mem_singleton.mp hb]
          show x.1 ≠ y.1
          have := ih.2 x mx
          omega
        · rcases List.mem_append.mp m with m | m
          · have := ih.2 x m
            omega
          · rw [List.mem_singleton.mp m, ey]
            omega
  exact (this _).1
theorem nexts_rm {h : List (List Nat)} {u : List Int} {r : List Nat} (U : Us h u) : (nexts h u r).length ≤ rm h u := by
  have := nodup_le ((nexts h u r).map (·.1) ++ u) (rngI h.length) (by
    rw [List.nodup_append]
    refine ⟨nexts_pl, U.lt.imp fun h => Int.ne_of_lt h, fun a ha b hb => ?_⟩
    obtain ⟨x, mx, rfl⟩ := List.mem_map.mp ha
    intro e
    exact (mem_nexts.mp mx).2.2.2.1 (e ▸ hb)) fun x m => by
      rcases List.mem_append.mp m with m | m
      · obtain ⟨y, my, rfl⟩ := List.mem_map.mp m
        exact mem_rngI.mpr ⟨(mem_nexts.mp my).1, (mem_nexts.mp my).2.1⟩
      · exact mem_rngI.mpr (U.ok x m)
  rw [List.length_append, List.length_map, rngI_len] at this
  unfold rm
  omega
theorem isE_nexts {h : List (List Nat)} {u : List Int} {r : List Nat} (e : isE h u r = true) : nexts h u r = [] := by
  unfold isE at e
  rw [Bool.and_eq_true, decide_eq_true_eq, decide_eq_true_eq] at e
  apply List.eq_nil_iff_forall_not_mem.mpr
  intro x m
  exact (mem_nexts.mp m).2.2.1 e.2
def addAll {α : Type} (f : α → List Nat) (acc : List (List Nat)) (ts : List α) : List (List Nat) := ts.foldl (fun acc t => addL acc (f t)) acc
theorem addL_len (a : List (List Nat)) (k : List Nat) : (addL a k).length ≤ a.length + 1 := by
  unfold addL
  split
  · omega
  · simp
theorem mem_addL {a : List (List Nat)} {k x : List Nat} : x ∈ addL a k ↔ x ∈ a ∨ x = k := by
  unfold addL
  split
  · rename_i h
    exact ⟨.inl, fun q => q.elim id fun e => e ▸ h⟩
  · rw [List.mem_append, List.mem_singleton]
theorem addAll_len {α : Type} (f : α → List Nat) : ∀ (ts : List α) (acc : List (List Nat)), (addAll f acc ts).length ≤ acc.length + ts.length
  | [], acc => Nat.le_refl _
  | t :: ts, acc => by
    have h1 := addAll_len f ts (addL acc (f t))
    have h2 := addL_len acc (f t)
    show (addAll f (addL acc (f t)) ts).length ≤ _
    rw [List.length_cons]
    omega
theorem mem_addAll {α : Type} {f : α → List Nat} {x : List Nat} : ∀ {ts : List α} {acc : List (List Nat)}, x ∈ addAll f acc ts ↔ x ∈ acc ∨ ∃ t ∈ ts, x = f t
  | [], acc => ⟨.inl, fun q => q.elim id fun ⟨_, m, _⟩ => absurd m List.not_mem_nil⟩
  | t :: ts, acc => by
    show x ∈ addAll f (addL acc (f t)) ts ↔ _
    rw [mem_addAll (ts := ts), mem_addL]
    constructor
    · rintro ((h | h) | ⟨s, m, e⟩)
      · exact .inl h
      · exact .inr ⟨t, List.mem_cons_self, h⟩
      · exact .inr ⟨s, List.mem_cons_of_mem _ m, e⟩
    · rintro (h | ⟨s, m, e⟩)
      · exact .inl (.inl h)
      · rcases List.mem_cons.mp m with rfl | m
        · exact .inl (.inr e)
        · exact .inr ⟨s, m, e⟩
theorem nodup_addL {a : List (List Nat)} {k : List Nat} (h : a.Nodup) : (addL a k).Nodup := by
  unfold addL
  split
  · exact h
  · rename_i n
    rw [List.nodup_append]
    refine ⟨h, List.pairwise_singleton _ _, fun x hx b hb e => n ?_⟩
    rw [← List.mem_singleton.mp hb, ← e]
    exact hx
theorem nodup_addAll {α : Type} {f : α → List Nat} : ∀ {ts : List α} {acc : List (List Nat)}, acc.Nodup → (addAll f acc ts).Nodup
  | [], _, h => h
  | t :: ts, acc, h => nodup_addAll (ts := ts) (nodup_addL h)
theorem tlsStep_eq (h : List (List Nat)) (r : List Nat) (acc : List (List Nat)) (x : NX) : tlsStep h r acc x = addAll (fun t => (shr h x.1).drop r.length ++ t) acc (tls h x.2.1 x.2.2) := rfl
theorem mem_tlsFold {h : List (List Nat)} {r : List Nat} {t : List Nat} : ∀ {l : List NX} {acc : List (List Nat)}, t ∈ l.foldl (tlsStep h r) acc ↔ t ∈ acc ∨ ∃ x ∈ l, ∃ t' ∈ tls h x.2.1 x.2.2, t = (shr h x.1).drop r.length ++ t'
  | [], acc => ⟨.inl, fun q => q.elim id fun ⟨_, m, _⟩ => absurd m List.not_mem_nil⟩
  | x :: l, acc => by
    rw [List.foldl_cons, mem_tlsFold (l := l), tlsStep_eq, mem_addAll]
    constructor
    · rintro ((h | h) | ⟨s, m, e⟩)
      · exact .inl h
      · exact .inr ⟨x, List.mem_cons_self, h⟩
      · exact .inr ⟨s, List.mem_cons_of_mem _ m, e⟩
    · rintro (h | ⟨s, m, e⟩)
      · exact .inl (.inl h)
      · rcases List.mem_cons.mp m with rfl | m
        · exact .inl (.inr e)
        · exact .inr ⟨s, m, e⟩
theorem nodup_tlsFold {h : List (List Nat)} {r : List Nat} : ∀ {l : List NX} {acc : List (List Nat)}, acc.Nodup → (l.foldl (tlsStep h r) acc).Nodup
  | [], _, a => a
  | x :: l, acc, a => by
    rw [List.foldl_cons]
    exact nodup_tlsFold (by rw [tlsStep_eq]; exact nodup_addAll a)
theorem mem_tls {h : List (List Nat)} {u : List Int} {r t : List Nat} (U : Us h u) : t ∈ tls h u r ↔ (isE h u r = true ∧ t = []) ∨ ∃ x ∈ nexts h u r, ∃ t' ∈ tls h x.2.1 x.2.2, t = (shr h x.1).drop r.length ++ t' := by
  rw [tls_eq U, mem_tlsFold]
  refine or_congr ?_ Iff.rfl
  split
  · rename_i e
    simp [e]
  · rename_i e
    simp [e]
theorem nodup_tls {h : List (List Nat)} {u : List Int} {r : List Nat} (U : Us h u) : (tls h u r).Nodup := by
  rw [tls_eq U]
  refine nodup_tlsFold ?_
  split
  · exact List.pairwise_singleton _ _
  · exact List.nodup_nil
def fac : Nat → Nat
  | 0 => 1
  | n + 1 => (n + 1) * fac n
theorem fac_pos : ∀ n, 1 ≤ fac n
  | 0 => Nat.le_refl _
  | n + 1 => by
    have := fac_pos n
    show 1 ≤ (n + 1) * fac n
    exact Nat.mul_le_mul (by omega : 1 ≤ n + 1) this
theorem fac_le {m n : Nat} (h : m ≤ n) : fac m ≤ fac n := by
  induction h with
  | refl => exact Nat.le_refl _
  | step _ ih =>
    refine Nat.le_trans ih ?_
    show _ ≤ _ * _
    exact Nat.le_mul_of_pos_left _ (by omega)
theorem tlsFold_len {h : List (List Nat)} {r : List Nat} {b : Nat} : ∀ {l : List NX} {acc : List (List Nat)}, (∀ x ∈ l, (tls h x.2.1 x.2.2).length ≤ b) → (l.foldl (tlsStep h r) acc).length ≤ acc.length + l.length * b
  | [], _, _ => by simp
  | x :: l, acc, hb => by
    rw [List.foldl_cons]
    refine Nat.le_trans (tlsFold_len (l := l) fun y m => hb y (List.mem_cons_of_mem _ m)) ?_
    rw [tlsStep_eq]
    have h1 := addAll_len (fun t => (shr h x.1).drop r.length ++ t) (tls h x.2.1 x.2.2) acc
    have h2 := hb x List.mem_cons_self
    rw [List.length_cons, Nat.succ_mul]
    omega
theorem tls_len {h : List (List Nat)} : ∀ (n : Nat) {u : List Int} {r : List Nat}, Us h u → rm h u = n → (tls h u r).length ≤ fac n := by
  intro n
  induction n with
  | zero =>
    intro u r U e
    rw [tls_eq U, nexts_full U e]
    show (if isE h u r then [[]] else ([] : List (List Nat))).length ≤ 1
    split <;> simp
  | succ n ih =>
    intro u r U e
    rw [tls_eq U]
    cases q : isE h u r with
    | true =>
      rw [isE_nexts q]
      exact fac_pos _
    | false =>
      have h1 := tlsFold_len (h := h) (r := r) (b := fac n) (l := nexts h u r) (acc := []) fun x m => ih (next_us U m).1 (by have := next_rm U m; omega)
      have h2 := nexts_rm (r := r) U
      rw [e] at h2
      show _ ≤ (n + 1) * fac n
      have h3 := Nat.mul_le_mul_right (fac n) h2
      rw [List.length_nil] at h1
      rw [if_neg Bool.false_ne_true]
      omega
theorem tls_each {h : List (List Nat)} (s : Small h) : ∀ (n : Nat) {u : List Int} {r t : List Nat}, Us h u → rm h u = n → t ∈ tls h u r → t.length ≤ 11 * n := by
  intro n
  induction n with
  | zero =>
    intro u r t U e m
    rcases (mem_tls U).mp m with ⟨_, rfl⟩ | ⟨x, mx, _⟩
    · exact Nat.zero_le _
    · rw [nexts_full U e] at mx
      exact absurd mx List.not_mem_nil
  | succ n ih =>
    intro u r t U e m
    rcases (mem_tls U).mp m with ⟨_, rfl⟩ | ⟨x, mx, t', mt, rfl⟩
    · exact Nat.zero_le _
    · have h1 := ih (next_us U mx).1 (by have := next_rm U mx; omega) mt
      have h2 := shr_le s x.1
      rw [List.length_append, List.length_drop]
      omega
theorem rm_le {h : List (List Nat)} (s : Small h) (u : List Int) : rm h u ≤ 8 := by
  have := s.len
  unfold rm
  omega
theorem tls_small {h : List (List Nat)} (s : Small h) {u : List Int} {r : List Nat} (U : Us h u) : (tls h u r).length ≤ 40320 := Nat.le_trans (tls_len _ U rfl) (fac_le (rm_le s u))
theorem tls_short {h : List (List Nat)} (s : Small h) {u : List Int} {r t : List Nat} (U : Us h u) (m : t ∈ tls h u r) : t.length ≤ 88 := by
  have h1 := tls_each s _ U rfl m
  have h2 := rm_le s u
  omega
end Tt

namespace Tt
/-! ### completions -/
abbrev LY := List Int × List Int
def stp (h : List (List Nat)) (r : List Nat) (p : Int) (c : LY) : LY := if (shr h p).isPrefixOf r then (c.1, p :: c.2) else (c.2, p :: c.1)
def cmpF (h : List (List Nat)) : Nat → List Int → List Nat → List LY
  | 0, u, r => if isE h u r then [([], [])] else []
  | k + 1, u, r => (if isE h u r then [([], [])] else []) ++ (nexts h u r).flatMap fun x => (cmpF h k x.2.1 x.2.2).map (stp h r x.1)
def cmp (h : List (List Nat)) (u : List Int) (r : List Nat) : List LY := cmpF h (rm h u) u r
theorem flatMap_congr' {α β : Type} {f g : α → List β} : ∀ {l : List α}, (∀ x ∈ l, f x = g x) → l.flatMap f = l.flatMap g
  | [], _ => rfl
  | x :: l, h => by rw [List.flatMap_cons, List.flatMap_cons, h x List.mem_cons_self, flatMap_congr' fun y m => h y (List.mem_cons_of_mem _ m)]
theorem cmp_eq {h : List (List Nat)} {u : List Int} {r : List Nat} (U : Us h u) : cmp h u r = (if isE h u r then [([], [])] else []) ++ (nexts h u r).flatMap fun x => (cmp h x.2.1 x.2.2).map (stp h r x.1) := by
  unfold cmp
  cases e : rm h u with
  | zero => rw [nexts_full U e]; simp [cmpF]
  | succ k =>
    rw [cmpF]
    congr 1
    refine flatMap_congr' fun x m => ?_
    have q := next_rm U m
    rw [show rm h x.2.1 = k by omega]
theorem mem_cmp_eq {h : List (List Nat)} {u : List Int} {r : List Nat} {c : LY} (U : Us h u) : c ∈ cmp h u r ↔ (isE h u r = true ∧ c = ([], [])) ∨ ∃ x ∈ nexts h u r, ∃ c' ∈ cmp h x.2.1 x.2.2, c = stp h r x.1 c' := by
  rw [cmp_eq U, List.mem_append, List.mem_flatMap]
  refine or_congr ?_ ⟨fun ⟨x, m, hc⟩ => ?_, fun ⟨x, m, c', m', e⟩ => ⟨x, m, List.mem_map.mpr ⟨c', m', e.symm⟩⟩⟩
  · split
    · rename_i e
      simp [e]
    · rename_i e
      simp [e]
  · obtain ⟨c', m', e⟩ := List.mem_map.mp hc
    exact ⟨x, m, c', m', e.symm⟩
structure Cp (h : List (List Nat)) (u : List Int) (r : List Nat) (P Q : List Int) : Prop where
  pm : (u ++ (P ++ Q)).Perm (rngI h.length)
  tx : r ++ joinT h P = joinT h Q
  nc : ∀ i < P.length, ∀ j < Q.length, r.length + (joinT h (P.take i)).length ≠ (joinT h (Q.take j)).length
theorem rngI_nodup (n : Nat) : (rngI n).Nodup := (rngI_lt n).imp fun h => Int.ne_of_lt h
theorem us_perm {h : List (List Nat)} {u : List Int} (U : Us h u) (e : u.length = h.length) : u.Perm (rngI h.length) := by
  rw [List.perm_ext_iff_of_nodup (U.lt.imp fun h => Int.ne_of_lt h) (rngI_nodup _)]
  intro i
  rw [mem_rngI]
  exact ⟨U.ok i, fun q => us_full U e q.1 q.2⟩
theorem len0 {α : Type} {l : List α} (h : l ≠ []) : 0 < l.length := List.length_pos_iff.mpr h
section
variable {h : List (List Nat)}
theorem shr_ne (ne : ∀ s ∈ h, s ≠ []) {p : Int} (h0 : 0 ≤ p) (h1 : p < h.length) : shr h p ≠ [] := ne _ (shr_mem h0 h1)
theorem joinT_ne (ne : ∀ s ∈ h, s ≠ []) {p : Int} {l : List Int} (h0 : 0 ≤ p) (h1 : p < h.length) : joinT h (p :: l) ≠ [] := by
  rw [joinT_cons]
  intro e
  exact shr_ne ne h0 h1 (List.append_eq_nil_iff.mp e).1
theorem pm_cons {u P Q : List Int} {p : Int} {R : List Int} (q : (u ++ (P ++ p :: Q)).Perm R) : (ins u p ++ (P ++ Q)).Perm R :=
  ((perm_ins u p).append_right _).trans ((List.perm_middle (l₁ := u ++ P)).symm.trans (by simpa using q) |> fun z => (by simpa using z))
theorem cmp_step (ne : ∀ s ∈ h, s ≠ []) {u : List Int} {r : List Nat} (U : Us h u) (ih : ∀ x ∈ nexts h u r, ∀ c, c ∈ cmp h x.2.1 x.2.2 ↔ Cp h x.2.1 x.2.2 c.1 c.2) (c : LY) : c ∈ cmp h u r ↔ Cp h u r c.1 c.2 := by
  rw [mem_cmp_eq U]
  constructor
  · rintro (⟨e, rfl⟩ | ⟨x, mx, c', mc, rfl⟩)
    · unfold isE at e
      rw [Bool.and_eq_true, decide_eq_true_eq, decide_eq_true_eq] at e
      exact ⟨by simpa using us_perm U e.1, by rw [e.2]; rfl, fun i hi => absurd hi (Nat.not_lt_zero _)⟩
    · have k := (ih x mx c').mp mc
      obtain ⟨h0, h1, hr, hu, e1, el⟩ := mem_nexts.mp mx
      have rl := len0 hr
      have pm : ∀ A B, (x.2.1 ++ (A ++ B)).Perm (rngI h.length) → (u ++ (A ++ x.1 :: B)).Perm (rngI h.length) := fun A B q => by
        rw [e1] at q
        refine List.Perm.trans ?_ q
        have z1 : (u ++ (A ++ x.1 :: B)).Perm (x.1 :: (u ++ (A ++ B))) := by
          rw [← List.append_assoc, ← List.append_assoc]
          exact List.perm_middle
        exact z1.trans ((perm_ins u x.1).symm.append_right _)
      unfold stp
      by_cases hp : (shr h x.1).isPrefixOf r = true
      · rw [if_pos hp]
        unfold lo at el
        rw [if_pos hp] at el
        have e2 := Option.some.inj el
        obtain ⟨w, hw⟩ := List.isPrefixOf_iff_prefix.mp hp
        have ew : x.2.2 = w := by rw [← e2, ← hw, List.drop_left]
        refine ⟨pm _ _ k.pm, ?_, fun i hi j hj => ?_⟩
        · show r ++ joinT h c'.1 = joinT h (x.1 :: c'.2)
          rw [joinT_cons, ← k.tx, ew, ← hw, List.append_assoc]
        · cases j with
          | zero => show r.length + _ ≠ (joinT h []).length; rw [joinT_nil]; simp only [List.length_nil]; omega
          | succ j =>
            have := k.nc i hi j (by simpa using hj)
            show r.length + (joinT h (c'.1.take i)).length ≠ (joinT h ((x.1 :: c'.2).take (j + 1))).length
            rw [List.take_succ_cons, joinT_cons, List.length_append]
            rw [ew] at this
            have e3 : r.length = (shr h x.1).length + w.length := by rw [← hw, List.length_append]
            omega
      · rw [if_neg hp]
        unfold lo at el
        rw [if_neg hp] at el
        split at el
        · rename_i hq
          have e2 := Option.some.inj el
          obtain ⟨w, hw⟩ := List.isPrefixOf_iff_prefix.mp hq
          have ew : x.2.2 = w := by rw [← e2, ← hw, List.drop_left]
          refine ⟨pm _ _ (List.Perm.trans (List.Perm.append_left _ List.perm_append_comm) k.pm), ?_, fun i hi j hj => ?_⟩
          · show r ++ joinT h c'.2 = joinT h (x.1 :: c'.1)
            rw [joinT_cons, ← k.tx, ew, ← hw, List.append_assoc]
          · cases j with
            | zero => show r.length + _ ≠ (joinT h []).length; rw [joinT_nil]; simp only [List.length_nil]; omega
            | succ j =>
              have := k.nc j (by simpa using hj) i hi
              show r.length + (joinT h (c'.2.take i)).length ≠ (joinT h ((x.1 :: c'.1).take (j + 1))).length
              rw [List.take_succ_cons, joinT_cons, List.length_append]
              rw [ew] at this
              have e3 : (shr h x.1).length = r.length + w.length := by rw [← hw, List.length_append]
              omega
        · cases el
  · intro k
    obtain ⟨P, Q⟩ := c
    have k : Cp h u r P Q := k
    have inr : ∀ p, p ∈ P ∨ p ∈ Q → 0 ≤ p ∧ p < h.length := fun p m => mem_rngI.mp (k.pm.mem_iff.mp (List.mem_append_right _ (List.mem_append.mpr m)))
    by_cases hr : r = []
    · subst hr
      refine .inl ?_
      cases P with
      | nil =>
        cases Q with
        | nil =>
          refine ⟨?_, rfl⟩
          have := k.pm.length_eq
          rw [rngI_len] at this
          unfold isE
          rw [Bool.and_eq_true, decide_eq_true_eq, decide_eq_true_eq]
          exact ⟨by simpa using this, rfl⟩
        | cons q Q =>
          obtain ⟨h0, h1⟩ := inr q (.inr List.mem_cons_self)
          exact absurd k.tx.symm (joinT_ne ne h0 h1)
      | cons p P =>
        cases Q with
        | nil =>
          obtain ⟨h0, h1⟩ := inr p (.inl List.mem_cons_self)
          exact absurd k.tx (joinT_ne ne h0 h1)
        | cons q Q => exact absurd rfl (k.nc 0 (by simp) 0 (by simp))
    · refine .inr ?_
      cases Q with
      | nil =>
        have := k.tx
        exact absurd (List.append_eq_nil_iff.mp this).1 hr
      | cons p Q =>
        obtain ⟨h0, h1⟩ := inr p (.inr List.mem_cons_self)
        have nd : (u ++ (P ++ p :: Q)).Nodup := k.pm.nodup_iff.mpr (rngI_nodup _)
        have pu : p ∉ u := fun m => (List.nodup_append.mp nd).2.2 p m p (List.mem_append_right _ List.mem_cons_self) rfl
        have pm : (ins u p ++ (P ++ Q)).Perm (rngI h.length) := by
          refine List.Perm.trans ?_ k.pm
          have z1 : (u ++ (P ++ p :: Q)).Perm (p :: (u ++ (P ++ Q))) := by
            rw [← List.append_assoc, ← List.append_assoc]
            exact List.perm_middle
          exact ((perm_ins u p).append_right _).trans z1.symm
        have tx := k.tx
        rw [joinT_cons] at tx
        by_cases hp : (shr h p).isPrefixOf r = true
        · obtain ⟨w, hw⟩ := List.isPrefixOf_iff_prefix.mp hp
          have el : lo r (shr h p) = some w := by
            unfold lo
            rw [if_pos hp, ← hw, List.drop_left]
          have mx : (p, ins u p, w) ∈ nexts h u r := mem_nexts.mpr ⟨h0, h1, hr, pu, rfl, el⟩
          refine ⟨_, mx, (P, Q), (ih _ mx _).mpr ⟨pm, ?_, fun i hi j hj => ?_⟩, ?_⟩
          · rw [← hw, List.append_assoc] at tx
            exact List.append_cancel_left tx
          · have := k.nc i hi (j + 1) (by simpa using hj)
            rw [List.take_succ_cons, joinT_cons, List.length_append] at this
            have e3 : r.length = (shr h p).length + w.length := by rw [← hw, List.length_append]
            show w.length + (joinT h (P.take i)).length ≠ (joinT h (Q.take j)).length
            omega
          · unfold stp
            rw [if_pos hp]
        · have hq : ∃ w, r ++ w = shr h p := by
            rcases List.append_eq_append_iff.mp tx with ⟨a, e1, e2⟩ | ⟨a, e1, e2⟩
            · exact ⟨a, e1.symm⟩
            · exact absurd (List.isPrefixOf_iff_prefix.mpr ⟨a, e1.symm⟩) hp
          obtain ⟨w, hw⟩ := hq
          have el : lo r (shr h p) = some w := by
            unfold lo
            rw [if_neg hp, if_pos (List.isPrefixOf_iff_prefix.mpr ⟨w, hw⟩), ← hw, List.drop_left]
          have mx : (p, ins u p, w) ∈ nexts h u r := mem_nexts.mpr ⟨h0, h1, hr, pu, rfl, el⟩
          refine ⟨_, mx, (Q, P), (ih _ mx _).mpr ⟨(List.Perm.append_left _ List.perm_append_comm).trans pm, ?_, fun i hi j hj => ?_⟩, ?_⟩
          · rw [← hw, List.append_assoc] at tx
            exact (List.append_cancel_left tx).symm
          · have := k.nc j hj (i + 1) (by simpa using hi)
            rw [List.take_succ_cons, joinT_cons, List.length_append] at this
            have e3 : (shr h p).length = r.length + w.length := by rw [← hw, List.length_append]
            show w.length + (joinT h (Q.take i)).length ≠ (joinT h (P.take j)).length
            omega
          · unfold stp
            rw [if_neg hp]
theorem mem_cmp (ne : ∀ s ∈ h, s ≠ []) : ∀ (n : Nat) {u : List Int} {r : List Nat}, Us h u → rm h u = n → ∀ c, c ∈ cmp h u r ↔ Cp h u r c.1 c.2
  | 0, u, r, U, e => cmp_step ne U fun x m => by rw [nexts_full U e] at m; exact absurd m List.not_mem_nil
  | n + 1, u, r, U, e => cmp_step ne U fun x m => mem_cmp ne n (next_us U m).1 (by have := next_rm U m; omega)
theorem stp_inj {r : List Nat} {p q : Int} {c d : LY} (e : stp h r p c = stp h r q d) : p = q ∧ c = d := by
  unfold stp at e
  by_cases z : p = q
  · subst z
    refine ⟨rfl, ?_⟩
    split at e
    · simp only [Prod.mk.injEq, List.cons.injEq, true_and] at e
      exact Prod.ext e.1 e.2
    · simp only [Prod.mk.injEq, List.cons.injEq, true_and] at e
      exact Prod.ext e.2 e.1
  · exfalso
    apply z
    split at e <;> split at e <;> simp only [Prod.mk.injEq, List.cons.injEq] at e <;> exact e.2.1
theorem nodup_cmp : ∀ (n : Nat) {u : List Int} {r : List Nat}, Us h u → rm h u = n → (cmp h u r).Nodup := by
  have step : ∀ {u : List Int} {r : List Nat}, Us h u → (∀ x ∈ nexts h u r, (cmp h x.2.1 x.2.2).Nodup) → (cmp h u r).Nodup := by
    intro u r U ih
    rw [cmp_eq U]
    by_cases e : isE h u r = true
    · rw [isE_nexts e, if_pos e]
      simp
    · rw [if_neg e, List.nil_append]
      show List.Pairwise _ _
      rw [List.pairwise_flatMap]
      refine ⟨fun x m => ?_, ?_⟩
      · rw [List.pairwise_map]
        exact (ih x m).imp fun hne z => hne (stp_inj z).2
      · have := nexts_pl (h := h) (u := u) (r := r)
        unfold List.Nodup at this
        rw [List.pairwise_map] at this
        refine this.imp fun {x y} hne a ha b hb z => ?_
        obtain ⟨c, _, rfl⟩ := List.mem_map.mp ha
        obtain ⟨d, _, rfl⟩ := List.mem_map.mp hb
        exact hne (stp_inj z).1
  intro n
  induction n with
  | zero => exact fun U e => step U fun x m => by rw [nexts_full U e] at m; exact absurd m List.not_mem_nil
  | succ n ih => exact fun U e => step U fun x m => ih (next_us U m).1 (by have := next_rm U m; omega)
theorem wys_cmp : ∀ (n : Nat) {u : List Int} {r : List Nat}, Us h u → rm h u = n → wys h u r = (cmp h u r).length := by
  have step : ∀ {u : List Int} {r : List Nat}, Us h u → (∀ x ∈ nexts h u r, wys h x.2.1 x.2.2 = (cmp h x.2.1 x.2.2).length) → wys h u r = (cmp h u r).length := by
    intro u r U ih
    rw [cmp_eq U, wys_eq U, List.length_append, List.length_flatMap]
    congr 1
    · split <;> rfl
    · congr 1
      refine List.map_congr_left fun x m => ?_
      rw [ih x m, List.length_map]
  intro n
  induction n with
  | zero => exact fun U e => step U fun x m => by rw [nexts_full U e] at m; exact absurd m List.not_mem_nil
  | succ n ih => exact fun U e => step U fun x m => ih (next_us U m).1 (by have := next_rm U m; omega)
theorem can_cmp : ∀ (n : Nat) {u : List Int} {r : List Nat}, Us h u → rm h u = n → (can h u r = true ↔ ∃ c, c ∈ cmp h u r) := by
  have step : ∀ {u : List Int} {r : List Nat}, Us h u → (∀ x ∈ nexts h u r, (can h x.2.1 x.2.2 = true ↔ ∃ c, c ∈ cmp h x.2.1 x.2.2)) → (can h u r = true ↔ ∃ c, c ∈ cmp h u r) := by
    intro u r U ih
    rw [can_eq U, Bool.or_eq_true, List.any_eq_true]
    constructor
    · rintro (e | ⟨x, m, hx⟩)
      · exact ⟨_, (mem_cmp_eq U).mpr (.inl ⟨e, rfl⟩)⟩
      · obtain ⟨c, mc⟩ := (ih x m).mp hx
        exact ⟨_, (mem_cmp_eq U).mpr (.inr ⟨x, m, c, mc, rfl⟩)⟩
    · rintro ⟨c, mc⟩
      rcases (mem_cmp_eq U).mp mc with ⟨e, _⟩ | ⟨x, m, c', mc', _⟩
      · exact .inl e
      · exact .inr ⟨x, m, (ih x m).mpr ⟨c', mc'⟩⟩
  intro n
  induction n with
  | zero => exact fun U e => step U fun x m => by rw [nexts_full U e] at m; exact absurd m List.not_mem_nil
  | succ n ih => exact fun U e => step U fun x m => ih (next_us U m).1 (by have := next_rm U m; omega)
/-- the tails are the texts of what is ahead -/
theorem tls_cmp (ne : ∀ s ∈ h, s ≠ []) : ∀ (n : Nat) {u : List Int} {r : List Nat}, Us h u → rm h u = n → ∀ t, (t ∈ tls h u r ↔ ∃ c ∈ cmp h u r, t = joinT h c.1) := by
  have step : ∀ {u : List Int} {r : List Nat}, Us h u → (∀ x ∈ nexts h u r, ∀ t, (t ∈ tls h x.2.1 x.2.2 ↔ ∃ c ∈ cmp h x.2.1 x.2.2, t = joinT h c.1)) → ∀ t, (t ∈ tls h u r ↔ ∃ c ∈ cmp h u r, t = joinT h c.1) := by
    intro u r U ih t
    have key : ∀ x ∈ nexts h u r, ∀ c ∈ cmp h x.2.1 x.2.2, (shr h x.1).drop r.length ++ joinT h c.1 = joinT h (stp h r x.1 c).1 := by
      intro x mx c mc
      have k := (mem_cmp ne _ (next_us U mx).1 rfl c).mp mc
      obtain ⟨h0, h1, hr, hu, e1, el⟩ := mem_nexts.mp mx
      unfold stp
      by_cases hp : (shr h x.1).isPrefixOf r = true
      · rw [if_pos hp]
        have := (List.isPrefixOf_iff_prefix.mp hp).length_le
        rw [List.drop_eq_nil_of_le this]
        rfl
      · rw [if_neg hp]
        unfold lo at el
        rw [if_neg hp] at el
        split at el
        · show _ = joinT h c.2
          rw [Option.some.inj el, ← k.tx]
        · cases el
    rw [mem_tls U]
    constructor
    · rintro (⟨e, rfl⟩ | ⟨x, m, t', mt, rfl⟩)
      · exact ⟨_, (mem_cmp_eq U).mpr (.inl ⟨e, rfl⟩), rfl⟩
      · obtain ⟨c, mc, rfl⟩ := (ih x m t').mp mt
        exact ⟨_, (mem_cmp_eq U).mpr (.inr ⟨x, m, c, mc, rfl⟩), key x m c mc⟩
    · rintro ⟨c, mc, rfl⟩
      rcases (mem_cmp_eq U).mp mc with ⟨e, rfl⟩ | ⟨x, m, c', mc', rfl⟩
      · exact .inl ⟨e, rfl⟩
      · exact .inr ⟨x, m, _, (ih x m _).mpr ⟨c', mc', rfl⟩, (key x m c' mc').symm⟩
  intro n
  induction n with
  | zero => exact fun U e => step U fun x m => by rw [nexts_full U e] at m; exact absurd m List.not_mem_nil
  | succ n ih => exact fun U e => step U fun x m => ih (next_us U m).1 (by have := next_rm U m; omega)
/-! ### all layings, ordered -/
def ordL (h : List (List Nat)) : List LY := (begins h).flatMap fun b => (cmp h b.1 b.2).map fun c => (b.1 ++ c.1, c.2)
structure Lay (h : List (List Nat)) (A B : List Int) : Prop where
  ne : A ≠ []
  pm : (A ++ B).Perm (rngI h.length)
  tx : joinT h A = joinT h B
  nc : ∀ i j, 0 < i → i < A.length → j < B.length → (joinT h (A.take i)).length ≠ (joinT h (B.take j)).length
theorem mem_begins {b : List Int × List Nat} : b ∈ begins h ↔ ∃ p : Int, 0 ≤ p ∧ p < h.length ∧ b = ([p], shr h p) := by
  unfold begins
  rw [List.mem_map]
  constructor
  · rintro ⟨i, hi, rfl⟩
    have := List.mem_range.mp hi
    exact ⟨i, by omega, by omega, rfl⟩
  · rintro ⟨p, h0, h1, rfl⟩
    refine ⟨p.toNat, List.mem_range.mpr (by omega), ?_⟩
    rw [Int.toNat_of_nonneg h0]
theorem mem_ordL (ne : ∀ s ∈ h, s ≠ []) {L : LY} : L ∈ ordL h ↔ Lay h L.1 L.2 := by
  unfold ordL
  rw [List.mem_flatMap]
  constructor
  · rintro ⟨b, mb, ml⟩
    obtain ⟨c, mc, rfl⟩ := List.mem_map.mp ml
    have v := (begin_vs mb).1
    have k := (mem_cmp ne _ v.us rfl c).mp mc
    obtain ⟨p, h0, h1, rfl⟩ := mem_begins.mp mb
    refine ⟨by simp, by simpa using k.pm, ?_, fun i j i0 hi hj => ?_⟩
    · show joinT h ([p] ++ c.1) = joinT h c.2
      rw [joinT_app, ← k.tx]
      congr 1
      simp [joinT]
    · cases i with
      | zero => omega
      | succ i =>
        have := k.nc i (by simpa using hi) j hj
        show (joinT h ((p :: c.1).take (i + 1))).length ≠ _
        rw [List.take_succ_cons, joinT_cons, List.length_append]
        exact this
  · intro k
    obtain ⟨A, B⟩ := L
    have k : Lay h A B := k
    cases A with
    | nil => exact absurd rfl k.ne
    | cons p A =>
      obtain ⟨h0, h1⟩ := mem_rngI.mp (k.pm.mem_iff.mp (List.mem_append_left _ List.mem_cons_self))
      have mb : ([p], shr h p) ∈ begins h := mem_begins.mpr ⟨p, h0, h1, rfl⟩
      refine ⟨_, mb, List.mem_map.mpr ⟨(A, B), (mem_cmp ne _ (begin_vs mb).1.us rfl _).mpr ⟨by simpa using k.pm, ?_, fun i hi j hj => ?_⟩, rfl⟩⟩
      · rw [← joinT_cons]
        exact k.tx
      · have := k.nc (i + 1) j (by omega) (by simpa using hi) hj
        rw [List.take_succ_cons, joinT_cons, List.length_append] at this
        exact this
theorem nodup_ordL : (ordL h).Nodup := by
  unfold ordL
  show List.Pairwise _ _
  rw [List.pairwise_flatMap]
  refine ⟨fun b mb => ?_, ?_⟩
  · rw [List.pairwise_map]
    exact (nodup_cmp _ (begin_vs mb).1.us rfl).imp fun {c d} hne z => by
      simp only [Prod.mk.injEq] at z
      exact hne (Prod.ext (List.append_cancel_left z.1) z.2)
  · unfold begins
    rw [List.pairwise_map]
    refine List.nodup_range.imp fun {i j} hne a ha b hb z => ?_
    obtain ⟨c, _, rfl⟩ := List.mem_map.mp ha
    obtain ⟨d, _, rfl⟩ := List.mem_map.mp hb
    have := congrArg Prod.fst z
    simp only [List.cons_append, List.nil_append, List.cons.injEq] at this
    omega
theorem manyW_eq : manyW h = (ordL h).length := by
  unfold manyW ordL
  rw [List.length_flatMap]
  congr 1
  refine List.map_congr_left fun b mb => ?_
  rw [List.length_map, wys_cmp _ (begin_vs mb).1.us rfl]
theorem lay_swap (ne : ∀ s ∈ h, s ≠ []) {A B : List Int} (l : Lay h A B) : Lay h B A := by
  have hA : joinT h A ≠ [] := by
    cases A with
    | nil => exact absurd rfl l.ne
    | cons p A =>
      obtain ⟨h0, h1⟩ := mem_rngI.mp (l.pm.mem_iff.mp (List.mem_append_left _ List.mem_cons_self))
      exact joinT_ne ne h0 h1
  have hB : B ≠ [] := fun e => by
    rw [l.tx, e] at hA
    exact hA rfl
  refine ⟨hB, List.perm_append_comm.trans l.pm, l.tx.symm, fun i j i0 hi hj e => ?_⟩
  cases j with
  | zero =>
    cases B with
    | nil => exact hB rfl
    | cons q B =>
      obtain ⟨h0, h1⟩ := mem_rngI.mp (l.pm.mem_iff.mp (List.mem_append_right _ List.mem_cons_self))
      cases i with
      | zero => omega
      | succ i =>
        rw [List.take_succ_cons, joinT_cons, List.length_append] at e
        have := len0 (shr_ne ne h0 h1)
        rw [List.take_zero, joinT_nil, List.length_nil] at e
        omega
  | succ j => exact l.nc (j + 1) i (by omega) hj hi e.symm
theorem mem_textsFold {t : List Nat} : ∀ {l : List (List Int × List Nat)} {acc : List (List Nat)}, t ∈ l.foldl (fun acc b => (tls h b.1 b.2).foldl (fun acc t => addL acc (b.2 ++ t)) acc) acc ↔ t ∈ acc ∨ ∃ b ∈ l, ∃ t' ∈ tls h b.1 b.2, t = b.2 ++ t'
  | [], acc => ⟨.inl, fun q => q.elim id fun ⟨_, m, _⟩ => absurd m List.not_mem_nil⟩
  | x :: l, acc => by
    rw [List.foldl_cons, mem_textsFold (l := l)]
    have e0 : (tls h x.1 x.2).foldl (fun acc t => addL acc (x.2 ++ t)) acc = addAll (fun t => x.2 ++ t) acc (tls h x.1 x.2) := rfl
    rw [e0, mem_addAll]
    constructor
    · rintro ((h | h) | ⟨s, m, e⟩)
      · exact .inl h
      · exact .inr ⟨x, List.mem_cons_self, h⟩
      · exact .inr ⟨s, List.mem_cons_of_mem _ m, e⟩
    · rintro (h | ⟨s, m, e⟩)
      · exact .inl (.inl h)
      · rcases List.mem_cons.mp m with rfl | m
        · exact .inl (.inr e)
        · exact .inr ⟨s, m, e⟩
theorem nodup_textsFold : ∀ {l : List (List Int × List Nat)} {acc : List (List Nat)}, acc.Nodup → (l.foldl (fun acc b => (tls h b.1 b.2).foldl (fun acc t => addL acc (b.2 ++ t)) acc) acc).Nodup
  | [], _, a => a
  | x :: l, acc, a => nodup_textsFold (l := l) (nodup_addAll (f := fun t => x.2 ++ t) (ts := tls h x.1 x.2) a)
theorem nodup_textsU : (textsU h).Nodup := nodup_textsFold List.nodup_nil
theorem mem_textsU (ne : ∀ s ∈ h, s ≠ []) {t : List Nat} : t ∈ textsU h ↔ ∃ L ∈ ordL h, t = joinT h L.1 := by
  unfold textsU
  rw [mem_textsFold]
  constructor
  · rintro (m | ⟨b, mb, t', mt, rfl⟩)
    · exact absurd m List.not_mem_nil
    · obtain ⟨c, mc, rfl⟩ := (tls_cmp ne _ (begin_vs mb).1.us rfl t').mp mt
      refine ⟨(b.1 ++ c.1, c.2), List.mem_flatMap.mpr ⟨b, mb, List.mem_map.mpr ⟨c, mc, rfl⟩⟩, ?_⟩
      obtain ⟨p, _, _, rfl⟩ := mem_begins.mp mb
      show _ = joinT h ([p] ++ c.1)
      rw [joinT_app]
      simp [joinT]
  · rintro ⟨L, mL, rfl⟩
    obtain ⟨b, mb, ml⟩ := List.mem_flatMap.mp mL
    obtain ⟨c, mc, rfl⟩ := List.mem_map.mp ml
    refine .inr ⟨b, mb, joinT h c.1, (tls_cmp ne _ (begin_vs mb).1.us rfl _).mpr ⟨c, mc, rfl⟩, ?_⟩
    obtain ⟨p, _, _, rfl⟩ := mem_begins.mp mb
    show joinT h ([p] ++ c.1) = _
    rw [joinT_app]
    simp [joinT]
end
end Tt

namespace Tt
/-! ### the search by a stack -/
abbrev EN4 := List Int × List Nat × List Int × List Int
section
variable {h : List (List Nat)}
/-- whether the first row is ahead -/
def ahd (h : List (List Nat)) (A B : List Int) : Bool := decide ((joinT h B).length < (joinT h A).length)
structure EnOk (h : List (List Nat)) (e : EN4) : Prop where
  vs : VS h e.1 e.2.1
  pm : (e.2.2.1 ++ e.2.2.2).Perm e.1
  tx : if ahd h e.2.2.1 e.2.2.2 = true then joinT h e.2.2.1 = joinT h e.2.2.2 ++ e.2.1 else joinT h e.2.2.2 = joinT h e.2.2.1 ++ e.2.1
def pair2 (b : Bool) (A B : List Int) (c : LY) : LY := if b = true then (A ++ c.1, B ++ c.2) else (A ++ c.2, B ++ c.1)
def cmpE (h : List (List Nat)) (e : EN4) : List LY := (cmp h e.1 e.2.1).map (pair2 (ahd h e.2.2.1 e.2.2.2) e.2.2.1 e.2.2.2)
def newE (h : List (List Nat)) (A B : List Int) (x : NX) : EN4 := if ahd h A B = true then (x.2.1, x.2.2, A, B ++ [x.1]) else (x.2.1, x.2.2, A ++ [x.1], B)
theorem joinT_one (p : Int) : joinT h [p] = shr h p := by simp [joinT]
theorem newE_ok {e : EN4} (ok : EnOk h e) {x : NX} (m : x ∈ nexts h e.1 e.2.1) : EnOk h (newE h e.2.2.1 e.2.2.2 x) ∧ (newE h e.2.2.1 e.2.2.2 x).1 = x.2.1 := by
  obtain ⟨u, r, A, B⟩ := e
  obtain ⟨v, pm, tx⟩ := ok
  simp only at v pm tx m ⊢
  obtain ⟨h0, h1, hr, hu, e1, el⟩ := mem_nexts.mp m
  have nv := next_vs v m
  have rl := len0 hr
  have pmi : (x.1 :: (A ++ B)).Perm x.2.1 := by
    rw [e1]
    exact (pm.cons x.1).trans (perm_ins u x.1).symm
  have lo2 : (∃ w, r = shr h x.1 ++ w ∧ x.2.2 = w) ∨ (∃ w, shr h x.1 = r ++ w ∧ x.2.2 = w ∧ 0 < w.length) := by
    unfold lo at el
    split at el
    · rename_i hp
      obtain ⟨w, hw⟩ := List.isPrefixOf_iff_prefix.mp hp
      exact .inl ⟨w, hw.symm, by rw [← Option.some.inj el, ← hw, List.drop_left]⟩
    · rename_i hp
      split at el
      · rename_i hq
        obtain ⟨w, hw⟩ := List.isPrefixOf_iff_prefix.mp hq
        refine .inr ⟨w, hw.symm, by rw [← Option.some.inj el, ← hw, List.drop_left], len0 fun z => hp ?_⟩
        rw [← hw, z, List.append_nil]
        exact List.isPrefixOf_iff_prefix.mpr (List.prefix_refl _)
      · cases el
  unfold newE
  by_cases a : ahd h A B = true
  · rw [if_pos a] at tx ⊢
    refine ⟨⟨nv, ?_, ?_⟩, rfl⟩
    · refine List.Perm.trans ?_ pmi
      show (A ++ (B ++ [x.1])).Perm _
      rw [← List.append_assoc]
      exact List.perm_append_comm (l₂ := [x.1])
    · show if ahd h A (B ++ [x.1]) = true then joinT h A = joinT h (B ++ [x.1]) ++ x.2.2 else joinT h (B ++ [x.1]) = joinT h A ++ x.2.2
      rw [joinT_app, joinT_one]
      rcases lo2 with ⟨w, e2, e3⟩ | ⟨w, e2, e3, wl⟩
      · rw [e3]
        have e4 : joinT h A = joinT h B ++ shr h x.1 ++ w := by rw [tx, e2, List.append_assoc]
        split
        · exact e4
        · rename_i n
          have n : ¬ (joinT h (B ++ [x.1])).length < (joinT h A).length := by
            intro z
            exact n (decide_eq_true z)
          rw [joinT_app, joinT_one] at n
          have e5 := congrArg List.length e4
          rw [List.length_append] at e5
          have : w = [] := by
            apply List.length_eq_zero_iff.mp
            omega
          rw [e4, this]
          simp
      · rw [e3]
        have e4 : joinT h B ++ shr h x.1 = joinT h A ++ w := by rw [tx, e2, List.append_assoc]
        rw [if_neg]
        · exact e4
        · intro z
          have z := of_decide_eq_true z
          rw [joinT_app, joinT_one, e4, List.length_append] at z
          omega
  · rw [if_neg a] at tx ⊢
    refine ⟨⟨nv, ?_, ?_⟩, rfl⟩
    · refine List.Perm.trans ?_ pmi
      show ((A ++ [x.1]) ++ B).Perm _
      rw [List.append_assoc]
      exact List.perm_middle
    · show if ahd h (A ++ [x.1]) B = true then joinT h (A ++ [x.1]) = joinT h B ++ x.2.2 else joinT h B = joinT h (A ++ [x.1]) ++ x.2.2
      rw [joinT_app, joinT_one]
      rcases lo2 with ⟨w, e2, e3⟩ | ⟨w, e2, e3, wl⟩
      · rw [e3]
        have e4 : joinT h B = joinT h A ++ shr h x.1 ++ w := by rw [tx, e2, List.append_assoc]
        rw [if_neg]
        · exact e4
        · intro z
          have z := of_decide_eq_true z
          rw [joinT_app, joinT_one, e4] at z
          simp only [List.length_append] at z
          omega
      · rw [e3]
        have e4 : joinT h A ++ shr h x.1 = joinT h B ++ w := by rw [tx, e2, List.append_assoc]
        rw [if_pos]
        · exact e4
        · apply decide_eq_true
          rw [joinT_app, joinT_one, e4, List.length_append]
          omega
/-- the completions of what comes next -/
theorem cmpE_new {e : EN4} (ok : EnOk h e) {x : NX} (m : x ∈ nexts h e.1 e.2.1) {L : LY} : L ∈ cmpE h (newE h e.2.2.1 e.2.2.2 x) ↔ ∃ c ∈ cmp h x.2.1 x.2.2, L = pair2 (ahd h e.2.2.1 e.2.2.2) e.2.2.1 e.2.2.2 (stp h e.2.1 x.1 c) := by
  obtain ⟨ok', e1⟩ := newE_ok ok m
  obtain ⟨u, r, A, B⟩ := e
  obtain ⟨v, pm, tx⟩ := ok
  simp only at v pm tx m e1 ok' ⊢
  obtain ⟨h0, h1, hr, hu, _, el⟩ := mem_nexts.mp m
  have rl := len0 hr
  -- the same pair by pair, but for what has come to an end
  have key : ∀ c ∈ cmp h x.2.1 x.2.2, pair2 (ahd h (newE h A B x).2.2.1 (newE h A B x).2.2.2) (newE h A B x).2.2.1 (newE h A B x).2.2.2 c = pair2 (ahd h A B) A B (stp h r x.1 c) := by
    intro c mc
    have cend : x.2.2 = [] → c = ([], []) := fun z => by
      rcases (mem_cmp_eq (next_us v.us m).1).mp mc with ⟨_, q⟩ | ⟨y, my, _⟩
      · exact q
      · exact absurd z (mem_nexts.mp my).2.2.1
    unfold lo at el
    unfold stp newE
    by_cases a : ahd h A B = true
    · rw [if_pos a] at tx
      rw [if_pos a, a]
      by_cases hp : (shr h x.1).isPrefixOf r = true
      · rw [if_pos hp] at el ⊢
        obtain ⟨w, hw⟩ := List.isPrefixOf_iff_prefix.mp hp
        have ew : x.2.2 = w := by rw [← Option.some.inj el, ← hw, List.drop_left]
        by_cases z : w = []
        · rw [cend (ew.trans z)]
          unfold pair2
          split <;> simp
        · have a2 : ahd h A (B ++ [x.1]) = true := by
            apply decide_eq_true
            have := len0 z
            rw [joinT_app, joinT_one, tx, ← hw]
            simp only [List.length_append]
            omega
          show pair2 (ahd h A (B ++ [x.1])) A (B ++ [x.1]) c = _
          rw [a2]
          unfold pair2
          simp
      · rw [if_neg hp] at el ⊢
        split at el
        · rename_i hq
          obtain ⟨w, hw⟩ := List.isPrefixOf_iff_prefix.mp hq
          have a2 : ahd h A (B ++ [x.1]) = false := by
            apply decide_eq_false
            rw [joinT_app, joinT_one, tx, ← hw]
            simp only [List.length_append]
            omega
          show pair2 (ahd h A (B ++ [x.1])) A (B ++ [x.1]) c = _
          rw [a2]
          unfold pair2
          simp
        · cases el
    · have a' : ahd h A B = false := by simpa using a
      rw [if_neg a] at tx
      rw [if_neg a, a']
      by_cases hp : (shr h x.1).isPrefixOf r = true
      · rw [if_pos hp] at el ⊢
        obtain ⟨w, hw⟩ := List.isPrefixOf_iff_prefix.mp hp
        have a2 : ahd h (A ++ [x.1]) B = false := by
          apply decide_eq_false
          rw [joinT_app, joinT_one, tx, ← hw]
          simp only [List.length_append]
          omega
        show pair2 (ahd h (A ++ [x.1]) B) (A ++ [x.1]) B c = _
        rw [a2]
        unfold pair2
        simp
      · rw [if_neg hp] at el ⊢
        split at el
        · rename_i hq
          obtain ⟨w, hw⟩ := List.isPrefixOf_iff_prefix.mp hq
          have wl : 0 < w.length := len0 fun z => hp (by
            rw [← hw, z, List.append_nil]
            exact List.isPrefixOf_iff_prefix.mpr (List.prefix_refl _))
          have a2 : ahd h (A ++ [x.1]) B = true := by
            apply decide_eq_true
            rw [joinT_app, joinT_one, tx, ← hw]
            simp only [List.length_append]
            omega
          show pair2 (ahd h (A ++ [x.1]) B) (A ++ [x.1]) B c = _
          rw [a2]
          unfold pair2
          simp
        · cases el
  have e2 : (newE h A B x).2.1 = x.2.2 := by unfold newE; split <;> rfl
  unfold cmpE
  rw [List.mem_map, e1, e2]
  constructor
  · rintro ⟨c, mc, rfl⟩
    exact ⟨c, mc, key c mc⟩
  · rintro ⟨c, mc, rfl⟩
    exact ⟨c, mc, key c mc⟩
theorem mem_cmpE {e : EN4} (ok : EnOk h e) {L : LY} : L ∈ cmpE h e ↔ (isE h e.1 e.2.1 = true ∧ L = (e.2.2.1, e.2.2.2)) ∨ ∃ x ∈ nexts h e.1 e.2.1, can h x.2.1 x.2.2 = true ∧ L ∈ cmpE h (newE h e.2.2.1 e.2.2.2 x) := by
  constructor
  · intro m
    unfold cmpE at m
    obtain ⟨c, mc, rfl⟩ := List.mem_map.mp m
    rcases (mem_cmp_eq ok.vs.us).mp mc with ⟨q, rfl⟩ | ⟨x, mx, c', mc', rfl⟩
    · refine .inl ⟨q, ?_⟩
      unfold pair2
      split <;> simp
    · exact .inr ⟨x, mx, (can_cmp _ (next_us ok.vs.us mx).1 rfl).mpr ⟨c', mc'⟩, (cmpE_new ok mx).mpr ⟨c', mc', rfl⟩⟩
  · rintro (⟨q, rfl⟩ | ⟨x, mx, _, ml⟩)
    · unfold cmpE
      refine List.mem_map.mpr ⟨([], []), (mem_cmp_eq ok.vs.us).mpr (.inl ⟨q, rfl⟩), ?_⟩
      unfold pair2
      split <;> simp
    · obtain ⟨c, mc, rfl⟩ := (cmpE_new ok mx).mp ml
      exact List.mem_map.mpr ⟨_, (mem_cmp_eq ok.vs.us).mpr (.inr ⟨x, mx, c, mc, rfl⟩), rfl⟩
/-- the place 0 in the first row -/
def nrm (L : LY) : LY := if (0 : Int) ∈ L.1 then L else (L.2, L.1)
def isNL (h : List (List Nat)) (L : LY) : Prop := ∃ L' ∈ ordL h, L = nrm L'
def startE (h : List (List Nat)) : List EN4 := (begins h).map fun b => (b.1, b.2, b.1, [])
theorem startE_ok (ne : ∀ s ∈ h, s ≠ []) {e : EN4} (m : e ∈ startE h) : EnOk h e := by
  unfold startE at m
  obtain ⟨b, mb, rfl⟩ := List.mem_map.mp m
  refine ⟨(begin_vs mb).1, by simp, ?_⟩
  obtain ⟨p, h0, h1, rfl⟩ := mem_begins.mp mb
  show if ahd h [p] [] = true then joinT h [p] = joinT h [] ++ shr h p else _
  have a : ahd h [p] [] = true := by
    apply decide_eq_true
    rw [joinT_one, joinT_nil]
    exact len0 (shr_ne ne h0 h1)
  rw [if_pos a, joinT_one, joinT_nil]
  rfl
theorem start_all (ne : ∀ s ∈ h, s ≠ []) {L : LY} : L ∈ ordL h ↔ ∃ e ∈ startE h, L ∈ cmpE h e := by
  unfold ordL startE
  rw [List.mem_flatMap]
  have key : ∀ b ∈ begins h, ∀ c, pair2 (ahd h b.1 []) b.1 [] c = (b.1 ++ c.1, c.2) := by
    intro b mb c
    obtain ⟨p, h0, h1, rfl⟩ := mem_begins.mp mb
    have a : ahd h [p] [] = true := by
      apply decide_eq_true
      rw [joinT_one, joinT_nil]
      exact len0 (shr_ne ne h0 h1)
    unfold pair2
    rw [a, if_pos rfl]
    rfl
  constructor
  · rintro ⟨b, mb, ml⟩
    obtain ⟨c, mc, rfl⟩ := List.mem_map.mp ml
    exact ⟨_, List.mem_map.mpr ⟨b, mb, rfl⟩, List.mem_map.mpr ⟨c, mc, key b mb c⟩⟩
  · rintro ⟨e, me, ml⟩
    obtain ⟨b, mb, rfl⟩ := List.mem_map.mp me
    obtain ⟨c, mc, rfl⟩ := List.mem_map.mp ml
    exact ⟨b, mb, List.mem_map.mpr ⟨c, mc, (key b mb c).symm⟩⟩
def addN (F : List LY) (L : LY) : List LY := if L ∈ F then F else F ++ [L]
theorem mem_addN {F : List LY} {L M : LY} : M ∈ addN F L ↔ M ∈ F ∨ M = L := by
  unfold addN
  split
  · rename_i m
    exact ⟨.inl, fun q => q.elim id fun e => e ▸ m⟩
  · rw [List.mem_append, List.mem_singleton]
theorem nodup_addN {F : List LY} {L : LY} (n : F.Nodup) : (addN F L).Nodup := by
  unfold addN
  split
  · exact n
  · rename_i m
    rw [List.nodup_append]
    refine ⟨n, List.pairwise_singleton _ _, fun x hx b hb e => m ?_⟩
    rw [← List.mem_singleton.mp hb, ← e]
    exact hx
theorem addN_len (F : List LY) (L : LY) : (addN F L).length ≤ F.length + 1 := by
  unfold addN
  split
  · omega
  · simp
/-- how much is left to be done -/
def tme : Nat → Nat
  | 0 => 1
  | n + 1 => 1 + (n + 1) * tme n
theorem tme_pos : ∀ n, 1 ≤ tme n
  | 0 => Nat.le_refl _
  | n + 1 => by show 1 ≤ 1 + _; omega
def mea (h : List (List Nat)) (st : List EN4) : Nat := (st.map fun e => tme (rm h e.1)).sum
def kids (h : List (List Nat)) (e : EN4) (xs : List NX) : List EN4 := xs.filterMap fun x => if can h x.2.1 x.2.2 = true then some (newE h e.2.2.1 e.2.2.2 x) else none
theorem mea_app (a b : List EN4) : mea h (a ++ b) = mea h a + mea h b := by simp [mea]
theorem mea_len (a : List EN4) : a.length ≤ mea h a := by
  induction a with
  | nil => exact Nat.le_refl _
  | cons e a ih =>
    have := tme_pos (rm h e.1)
    have e2 : mea h (e :: a) = tme (rm h e.1) + mea h a := by simp [mea]
    rw [e2, List.length_cons]
    omega
theorem kids_mea {e : EN4} (ok : EnOk h e) {xs : List NX} (sub : ∀ x ∈ xs, x ∈ nexts h e.1 e.2.1) : mea h (kids h e xs) ≤ xs.length * tme (rm h e.1 - 1) := by
  induction xs with
  | nil => exact Nat.zero_le _
  | cons x xs ih =>
    have i := ih fun y m => sub y (List.mem_cons_of_mem _ m)
    have mx := sub x List.mem_cons_self
    have e1 := (newE_ok ok mx).2
    have e2 := next_rm ok.vs.us mx
    rw [List.length_cons, Nat.succ_mul]
    unfold kids
    rw [List.filterMap_cons]
    by_cases c : can h x.2.1 x.2.2 = true
    · rw [if_pos c]
      have e3 : mea h (newE h e.2.2.1 e.2.2.2 x :: kids h e xs) = tme (rm h (newE h e.2.2.1 e.2.2.2 x).1) + mea h (kids h e xs) := by simp [mea]
      show mea h (newE h e.2.2.1 e.2.2.2 x :: kids h e xs) ≤ _
      rw [e3, e1, show rm h x.2.1 = rm h e.1 - 1 by omega]
      omega
    · rw [if_neg c]
      exact Nat.le_trans i (Nat.le_add_right _ _)
theorem kids_less {e : EN4} (ok : EnOk h e) : mea h (kids h e (nexts h e.1 e.2.1)) + 1 ≤ tme (rm h e.1) := by
  have h1 := kids_mea ok fun x m => m
  have h2 := nexts_rm (r := e.2.1) ok.vs.us
  cases q : rm h e.1 with
  | zero =>
    rw [q] at h2
    have : (nexts h e.1 e.2.1).length = 0 := by omega
    rw [this, Nat.zero_mul] at h1
    show _ ≤ 1
    omega
  | succ k =>
    rw [q] at h1 h2
    have h3 := Nat.mul_le_mul_right (tme k) h2
    show _ ≤ 1 + (k + 1) * tme k
    rw [Nat.add_sub_cancel] at h1
    omega
structure StOk (h : List (List Nat)) (st : List EN4) (F : List LY) : Prop where
  ok : ∀ e ∈ st, EnOk h e
  nd : F.Nodup
  al : ∀ L, isNL h L ↔ L ∈ F ∨ ∃ e ∈ st, ∃ L' ∈ cmpE h e, L = nrm L'
  me : F.length + mea h st ≤ 109600
theorem StOk.start (sm : Small h) (ne : ∀ s ∈ h, s ≠ []) : StOk h (startE h) [] := by
  refine ⟨fun e m => startE_ok ne m, List.nodup_nil, fun L => ?_, ?_⟩
  · constructor
    · rintro ⟨L', m, rfl⟩
      obtain ⟨e, me, ml⟩ := (start_all ne).mp m
      exact .inr ⟨e, me, L', ml, rfl⟩
    · rintro (m | ⟨e, me, L', ml, rfl⟩)
      · exact absurd m List.not_mem_nil
      · exact ⟨L', (start_all ne).mpr ⟨e, me, ml⟩, rfl⟩
  · have : mea h (startE h) = h.length * tme (rm h [0]) := by
      unfold mea startE begins
      rw [List.map_map, List.map_map]
      have : ∀ l : List Nat, (l.map ((fun e : EN4 => tme (rm h e.1)) ∘ (fun b : List Int × List Nat => ((b.1, b.2, b.1, []) : EN4)) ∘ fun (i : Nat) => ([(i : Int)], shr h i))).sum = l.length * tme (rm h [0]) := by
        intro l
        induction l with
        | nil => simp
        | cons x l ih =>
          rw [List.map_cons, List.sum_cons, ih, List.length_cons, Nat.succ_mul]
          show tme (rm h [(x : Int)]) + _ = _
          unfold rm
          simp only [List.length_cons, List.length_nil]
          omega
      have t2 := this (List.range h.length)
      rw [List.length_range] at t2
      exact t2
    rw [this]
    unfold rm
    have := sm.len
    simp only [List.length_nil, List.length_cons, Nat.zero_add]
    generalize h.length = n at *
    have : n = 0 ∨ n = 1 ∨ n = 2 ∨ n = 3 ∨ n = 4 ∨ n = 5 ∨ n = 6 ∨ n = 7 ∨ n = 8 := by omega
    rcases this with rfl | rfl | rfl | rfl | rfl | rfl | rfl | rfl | rfl <;> decide
theorem StOk.step {st : List EN4} {e : EN4} {F : List LY} (s : StOk h (st ++ [e]) F) : StOk h (st ++ kids h e (nexts h e.1 e.2.1)) (if isE h e.1 e.2.1 = true then addN F (nrm (e.2.2.1, e.2.2.2)) else F) ∧ mea h (st ++ kids h e (nexts h e.1 e.2.1)) < mea h (st ++ [e]) := by
  have oe := s.ok e (List.mem_append_right _ (List.mem_singleton.mpr rfl))
  have kl := kids_less oe
  have m1 : mea h (st ++ [e]) = mea h st + tme (rm h e.1) := by rw [mea_app]; simp [mea]
  have m2 : mea h (st ++ kids h e (nexts h e.1 e.2.1)) = mea h st + mea h (kids h e (nexts h e.1 e.2.1)) := mea_app _ _
  have mk : ∀ y, y ∈ kids h e (nexts h e.1 e.2.1) ↔ ∃ x ∈ nexts h e.1 e.2.1, can h x.2.1 x.2.2 = true ∧ y = newE h e.2.2.1 e.2.2.2 x := by
    intro y
    unfold kids
    rw [List.mem_filterMap]
    constructor
    · rintro ⟨x, mx, q⟩
      split at q
      · rename_i c
        exact ⟨x, mx, c, (Option.some.inj q).symm⟩
      · cases q
    · rintro ⟨x, mx, c, rfl⟩
      exact ⟨x, mx, if_pos c⟩
  have mF : ∀ L, L ∈ (if isE h e.1 e.2.1 = true then addN F (nrm (e.2.2.1, e.2.2.2)) else F) ↔ L ∈ F ∨ (isE h e.1 e.2.1 = true ∧ L = nrm (e.2.2.1, e.2.2.2)) := by
    intro L
    split
    · rename_i c
      rw [mem_addN]
      simp [c]
    · rename_i c
      simp [c]
  refine ⟨⟨fun y m => ?_, ?_, fun L => ?_, ?_⟩, ?_⟩
  · rcases List.mem_append.mp m with m | m
    · exact s.ok y (List.mem_append_left _ m)
    · obtain ⟨x, mx, c, rfl⟩ := (mk y).mp m
      exact (newE_ok oe mx).1
  · split
    · exact nodup_addN s.nd
    · exact s.nd
  · rw [s.al L, mF]
    constructor
    · rintro (m | ⟨y, my, L', ml, rfl⟩)
      · exact .inl (.inl m)
      · rcases List.mem_append.mp my with my | my
        · exact .inr ⟨y, List.mem_append_left _ my, L', ml, rfl⟩
        · rw [List.mem_singleton.mp my] at ml
          rcases (mem_cmpE oe).mp ml with ⟨q, rfl⟩ | ⟨x, mx, c, ml'⟩
          · exact .inl (.inr ⟨q, rfl⟩)
          · exact .inr ⟨_, List.mem_append_right _ ((mk _).mpr ⟨x, mx, c, rfl⟩), L', ml', rfl⟩
    · rintro ((m | ⟨q, rfl⟩) | ⟨y, my, L', ml, rfl⟩)
      · exact .inl m
      · exact .inr ⟨e, List.mem_append_right _ (List.mem_singleton.mpr rfl), _, (mem_cmpE oe).mpr (.inl ⟨q, rfl⟩), rfl⟩
      · rcases List.mem_append.mp my with my | my
        · exact .inr ⟨y, List.mem_append_left _ my, L', ml, rfl⟩
        · obtain ⟨x, mx, c, rfl⟩ := (mk y).mp my
          exact .inr ⟨e, List.mem_append_right _ (List.mem_singleton.mpr rfl), L', (mem_cmpE oe).mpr (.inr ⟨x, mx, c, ml⟩), rfl⟩
  · have := s.me
    have l := addN_len F (nrm (e.2.2.1, e.2.2.2))
    rw [m1] at this
    rw [m2]
    split <;> omega
  · rw [m1, m2]
    omega
end
end Tt

namespace Tt
section
variable {h : List (List Nat)}
theorem map_rngI {α : Type} (f : List Nat → α) : (rngI h.length).map (fun i => f (shr h i)) = h.map f := by
  unfold rngI
  rw [List.map_map]
  apply List.ext_getElem
  · simp
  · intro i h1 h2
    have hi : i < h.length := by simpa using h2
    simp only [List.getElem_map, List.getElem_range, Function.comp]
    congr 1
    unfold shr
    rw [List.getD_eq_getElem?_getD]
    simp [hi]
theorem joinT_sum (p : List Int) : (joinT h p).length = (p.map fun i => (shr h i).length).sum := by
  unfold joinT
  rw [List.length_flatten, List.map_map]
  rfl
theorem texts_half (ne : ∀ s ∈ h, s ≠ []) {r : List Nat} (m : r ∈ textsU h) : 2 * r.length = (h.map List.length).sum := by
  obtain ⟨L, mL, rfl⟩ := (mem_textsU ne).mp m
  have k := (mem_ordL ne).mp mL
  have e1 := (k.pm.map fun i => (shr h i).length).sum_nat
  rw [map_rngI List.length, List.map_append, List.sum_append, ← joinT_sum, ← joinT_sum] at e1
  have := congrArg List.length k.tx
  omega
theorem texts_ways (ne : ∀ s ∈ h, s ≠ []) (h0 : 0 < h.length) : (textsU h).length ≤ manyW h / 2 := by
  have part : ((ordL h).filter fun L => decide ((0 : Int) ∈ L.1)).length + ((ordL h).filter fun L => !decide ((0 : Int) ∈ L.1)).length = (ordL h).length := by
    generalize ordL h = l
    induction l with
    | nil => rfl
    | cons L l ih =>
      by_cases c : (0 : Int) ∈ L.1
      · rw [List.filter_cons_of_pos (by simpa using c), List.filter_cons_of_neg (by simpa using c), List.length_cons, List.length_cons]
        omega
      · rw [List.filter_cons_of_neg (by simpa using c), List.filter_cons_of_pos (by simpa using c), List.length_cons, List.length_cons]
        omega
  have zero : ∀ L, L ∈ ordL h → ((0 : Int) ∈ L.1 ↔ (0 : Int) ∉ L.2) := by
    intro L m
    have k := (mem_ordL ne).mp m
    have nd : (L.1 ++ L.2).Nodup := k.pm.nodup_iff.mpr (rngI_nodup _)
    have z : (0 : Int) ∈ L.1 ++ L.2 := k.pm.mem_iff.mpr (mem_rngI.mpr ⟨Int.le_refl 0, by omega⟩)
    constructor
    · intro a b
      exact (List.nodup_append.mp nd).2.2 0 a 0 b rfl
    · intro a
      exact (List.mem_append.mp z).resolve_right a
  have swp : ((ordL h).filter fun L => decide ((0 : Int) ∈ L.1)).length ≤ ((ordL h).filter fun L => !decide ((0 : Int) ∈ L.1)).length := by
    have := nodup_le (((ordL h).filter fun L => decide ((0 : Int) ∈ L.1)).map fun L => (L.2, L.1)) ((ordL h).filter fun L => !decide ((0 : Int) ∈ L.1)) (by
      show List.Pairwise _ _
      rw [List.pairwise_map]
      exact (nodup_ordL.filter _).imp fun hne z => hne (Prod.ext (congrArg Prod.snd z) (congrArg Prod.fst z))) (by
      intro x m
      obtain ⟨L, mL, rfl⟩ := List.mem_map.mp m
      obtain ⟨m1, m2⟩ := List.mem_filter.mp mL
      have k := (mem_ordL ne).mp m1
      have m3 : (L.2, L.1) ∈ ordL h := (mem_ordL ne).mpr (lay_swap ne k)
      refine List.mem_filter.mpr ⟨m3, ?_⟩
      have := (zero L m1).mp (of_decide_eq_true m2)
      simpa using this)
    rwa [List.length_map] at this
  have cov : (textsU h).length ≤ ((ordL h).filter fun L => decide ((0 : Int) ∈ L.1)).length := by
    have := nodup_le (textsU h) (((ordL h).filter fun L => decide ((0 : Int) ∈ L.1)).map fun L => joinT h L.1) nodup_textsU (by
      intro t m
      obtain ⟨L, mL, rfl⟩ := (mem_textsU ne).mp m
      have k := (mem_ordL ne).mp mL
      by_cases c : (0 : Int) ∈ L.1
      · exact List.mem_map.mpr ⟨L, List.mem_filter.mpr ⟨mL, decide_eq_true c⟩, rfl⟩
      · have m3 : (L.2, L.1) ∈ ordL h := (mem_ordL ne).mpr (lay_swap ne k)
        have c2 : (0 : Int) ∈ L.2 := by
          apply Decidable.byContradiction
          intro z
          exact c ((zero L mL).mpr z)
        exact List.mem_map.mpr ⟨(L.2, L.1), List.mem_filter.mpr ⟨m3, decide_eq_true c2⟩, k.tx.symm⟩)
    rwa [List.length_map] at this
  rw [manyW_eq]
  omega
/-- places of a rearrangement -/
theorem places_of : ∀ (l : List (List Nat)) {h : List (List Nat)}, l.Perm h → ∃ p : List Int, p.Perm (rngI h.length) ∧ p.map (shr h) = l
  | [], h, q => by
    have := q.length_eq
    have e : h = [] := List.length_eq_zero_iff.mp (by simpa using this.symm)
    subst e
    exact ⟨[], .nil, rfl⟩
  | x :: l, h, q => by
    have mx : x ∈ h := q.mem_iff.mp List.mem_cons_self
    obtain ⟨a, b, rfl⟩ := List.append_of_mem mx
    have q2 : l.Perm (a ++ b) := (List.perm_cons x).mp (q.trans List.perm_middle)
    obtain ⟨p, pp, pm⟩ := places_of l q2
    let f : Int → Int := fun i => if i < (a.length : Int) then i else i + 1
    have hin : ∀ i ∈ p, 0 ≤ i ∧ i < (a.length : Int) + b.length := fun i m => by
      have := mem_rngI.mp (pp.mem_iff.mp m)
      rw [List.length_append] at this
      omega
    refine ⟨(a.length : Int) :: p.map f, ?_, ?_⟩
    · have nd : ((a.length : Int) :: p.map f).Nodup := by
        rw [List.nodup_cons]
        refine ⟨fun m => ?_, ?_⟩
        · obtain ⟨i, mi, e⟩ := List.mem_map.mp m
          have := hin i mi
          simp only [f] at e
          split at e <;> omega
        · show List.Pairwise _ _
          rw [List.pairwise_map]
          refine (pp.nodup_iff.mpr (rngI_nodup _)).imp fun {i j} hne z => hne ?_
          simp only [f] at z
          split at z <;> split at z <;> omega
      rw [List.perm_ext_iff_of_nodup nd (rngI_nodup _)]
      intro i
      rw [mem_rngI, List.mem_cons, List.mem_map, List.length_append, List.length_cons]
      constructor
      · rintro (rfl | ⟨j, mj, rfl⟩)
        · omega
        · have := hin j mj
          simp only [f]
          split <;> omega
      · intro hi
        by_cases e : i = (a.length : Int)
        · exact .inl e
        · refine .inr ⟨if i < (a.length : Int) then i else i - 1, pp.mem_iff.mpr (mem_rngI.mpr ?_), ?_⟩
          · rw [List.length_append]
            split <;> omega
          · simp only [f]
            by_cases c : i < (a.length : Int)
            · rw [if_pos c, if_pos c]
            · rw [if_neg c, if_neg (by omega)]
              omega
    · rw [List.map_cons, List.map_map]
      congr 1
      · unfold shr
        simp
      · rw [← pm]
        refine List.map_congr_left fun i mi => ?_
        have := hin i mi
        simp only [Function.comp, f]
        unfold shr
        rw [List.getD_eq_getElem?_getD, List.getD_eq_getElem?_getD]
        split
        · rw [List.getElem?_append_left (by omega), List.getElem?_append_left (by omega)]
        · rw [List.getElem?_append_right (by omega), List.getElem?_append_right (by omega)]
          have e : (i + 1).toNat - a.length = (i.toNat - a.length) + 1 := by omega
          rw [e, List.getElem?_cons_succ]
end
end Tt

namespace Tt
/-- unlike signs in a row -/
def run (a n : Nat) : List Nat := (List.range n).map (a + ·)
theorem run_len (a n : Nat) : (run a n).length = n := by simp [run]
theorem run_drop (a n k : Nat) : (run a n).drop k = run (a + k) (n - k) := by
  unfold run
  apply List.ext_getElem
  · simp
  · intro i h1 h2
    simp
    omega
theorem run_succ (a n : Nat) : run a (n + 1) = a :: run (a + 1) n := by
  unfold run
  rw [List.range_succ_eq_map, List.map_cons, List.map_map]
  congr 1
  refine List.map_congr_left fun i _ => ?_
  simp only [Function.comp]
  omega
def hd (c : Nat) (s : List Nat) : Bool := decide (s.head? = some c)
section
variable {h : List (List Nat)}
theorem places_cnt {p : List Nat → Bool} {ps : List Int} (nd : ps.Nodup) (hp : ∀ i ∈ ps, 0 ≤ i ∧ i < h.length ∧ p (shr h i) = true) : ps.length ≤ h.countP p := by
  have e : h.countP p = ((rngI h.length).filter fun i => p (shr h i)).length := by
    have e1 : (rngI h.length).map (fun i => shr h i) = h := by
      have := map_rngI (h := h) (fun s => s)
      simpa using this
    have : h.countP p = ((rngI h.length).map (fun i => shr h i)).countP p := by rw [e1]
    rw [this, List.countP_map, List.countP_eq_length_filter]
    rfl
  rw [e]
  exact nodup_le _ _ nd fun i m => List.mem_filter.mpr ⟨mem_rngI.mpr ⟨(hp i m).1, (hp i m).2.1⟩, (hp i m).2.2⟩
structure Run1 (h : List (List Nat)) : Prop where
  is : ∀ s ∈ h, ∃ a m, s = run a (m + 1) ∧ 97 ≤ a
  one : ∀ c, c ≠ 97 → h.countP (hd c) ≤ 1
  two : h.countP (hd 97) ≤ 2
theorem next_run (R : Run1 h) {u : List Int} {c m : Nat} {x : NX} (mx : x ∈ nexts h u (run c (m + 1))) : hd c (shr h x.1) = true ∧ ∃ c' m', c < c' ∧ x.2.2 = run c' m' := by
  obtain ⟨h0, h1, _, _, _, el⟩ := mem_nexts.mp mx
  obtain ⟨a, k, es, _⟩ := R.is _ (shr_mem h0 h1)
  rw [es] at el ⊢
  have ac : a = c := by
    unfold lo at el
    split at el
    · rename_i q
      rw [run_succ, run_succ] at q
      simp at q
      exact q.1
    · split at el
      · rename_i q
        rw [run_succ, run_succ] at q
        simp at q
        exact q.1.symm
      · cases el
  subst ac
  refine ⟨by unfold hd; rw [run_succ]; simp, ?_⟩
  unfold lo at el
  split at el
  · refine ⟨a + (k + 1), m + 1 - (k + 1), by omega, ?_⟩
    rw [← Option.some.inj el, run_len, run_drop]
  · split at el
    · refine ⟨a + (m + 1), k + 1 - (m + 1), by omega, ?_⟩
      rw [← Option.some.inj el, run_len, run_drop]
    · cases el
theorem wys_le1 (R : Run1 h) : ∀ (n : Nat) {u : List Int} {c m : Nat}, Us h u → rm h u = n → 97 ≤ c → (c ≠ 97 ∨ ∃ p ∈ u, hd 97 (shr h p) = true) → wys h u (run c m) ≤ 1 := by
  have step : ∀ {u : List Int} {c m : Nat}, Us h u → 97 ≤ c → (c ≠ 97 ∨ ∃ p ∈ u, hd 97 (shr h p) = true) → (∀ x ∈ nexts h u (run c m), ∀ c' m', c < c' → x.2.2 = run c' m' → wys h x.2.1 (run c' m') ≤ 1) → wys h u (run c m) ≤ 1 := by
    intro u c m U hc cond ih
    rw [wys_eq U]
    cases m with
    | zero =>
      have : nexts h u (run c 0) = [] := by
        apply List.eq_nil_iff_forall_not_mem.mpr
        intro x mx
        exact (mem_nexts.mp mx).2.2.1 rfl
      rw [this]
      show (if _ then 1 else 0) + 0 ≤ 1
      split <;> omega
    | succ m =>
      have ne : isE h u (run c (m + 1)) = false := by
        unfold isE
        rw [run_succ]
        simp
      rw [ne, if_neg Bool.false_ne_true]
      have len : (nexts h u (run c (m + 1))).length ≤ 1 := by
        rcases cond with q | ⟨p, mp, hp⟩
        · have := places_cnt (h := h) (p := hd c) (nexts_pl (h := h) (u := u) (r := run c (m + 1))) fun i mi => by
            obtain ⟨x, mx, rfl⟩ := List.mem_map.mp mi
            exact ⟨(mem_nexts.mp mx).1, (mem_nexts.mp mx).2.1, (next_run R mx).1⟩
          rw [List.length_map] at this
          exact Nat.le_trans this (R.one c q)
        · by_cases q : c = 97
          · subst q
            have nd : (p :: (nexts h u (run 97 (m + 1))).map (·.1)).Nodup := by
              rw [List.nodup_cons]
              refine ⟨fun mm => ?_, nexts_pl⟩
              obtain ⟨x, mx, e⟩ := List.mem_map.mp mm
              exact (mem_nexts.mp mx).2.2.2.1 (by rw [show x.1 = p from e]; exact mp)
            have := places_cnt (h := h) (p := hd 97) nd fun i mi => by
              rcases List.mem_cons.mp mi with rfl | mi
              · exact ⟨(U.ok i mp).1, (U.ok i mp).2, hp⟩
              · obtain ⟨x, mx, rfl⟩ := List.mem_map.mp mi
                exact ⟨(mem_nexts.mp mx).1, (mem_nexts.mp mx).2.1, (next_run R mx).1⟩
            have := R.two
            rw [List.length_cons, List.length_map] at *
            omega
          · have := places_cnt (h := h) (p := hd c) (nexts_pl (h := h) (u := u) (r := run c (m + 1))) fun i mi => by
              obtain ⟨x, mx, rfl⟩ := List.mem_map.mp mi
              exact ⟨(mem_nexts.mp mx).1, (mem_nexts.mp mx).2.1, (next_run R mx).1⟩
            rw [List.length_map] at this
            exact Nat.le_trans this (R.one c q)
      have each : ∀ x ∈ nexts h u (run c (m + 1)), wys h x.2.1 x.2.2 ≤ 1 := fun x mx => by
        obtain ⟨_, c', m', hlt, e⟩ := next_run R mx
        rw [e]
        exact ih x mx c' m' hlt e
      match nexts h u (run c (m + 1)), len, each with
      | [], _, _ => exact Nat.zero_le _
      | [x], _, each =>
        have := each x List.mem_cons_self
        show 0 + (wys h x.2.1 x.2.2 + 0) ≤ 1
        omega
      | _ :: _ :: _, len, _ => simp at len
  intro n
  induction n with
  | zero => exact fun U e hc cond => step U hc cond fun x mx => by rw [nexts_full U e] at mx; exact absurd mx List.not_mem_nil
  | succ n ih => exact fun U e hc cond => step U hc cond fun x mx c' m' hlt _ => ih (next_us U mx).1 (by have := next_rm U mx; omega) (by omega) (.inl (by omega))
theorem manyW_two (R : Run1 h) : manyW h ≤ 2 := by
  have each : ∀ b ∈ begins h, wys h b.1 b.2 ≤ if hd 97 b.2 = true then 1 else 0 := by
    intro b mb
    have us := (begin_vs mb).1.us
    obtain ⟨p, h0, h1, rfl⟩ := mem_begins.mp mb
    obtain ⟨a, m, es, ha⟩ := R.is _ (shr_mem h0 h1)
    by_cases q : a = 97
    · have hh : hd 97 (shr h p) = true := by
        rw [es, q]
        unfold hd
        rw [run_succ]
        simp
      show wys h [p] (shr h p) ≤ if hd 97 (shr h p) = true then 1 else 0
      rw [if_pos hh]
      have := wys_le1 R _ (c := a) (m := m + 1) us rfl ha (.inr ⟨p, List.mem_cons_self, hh⟩)
      rw [← es] at this
      exact this
    · have z : wys h [p] (shr h p) = 0 := by
        rw [wys_eq us]
        have ne : isE h [p] (shr h p) = false := by
          unfold isE
          rw [es, run_succ]
          simp
        have nn : nexts h [p] (shr h p) = [] := by
          apply List.eq_nil_iff_forall_not_mem.mpr
          intro x mx
          have mx' := mx
          rw [es] at mx'
          have hx := (next_run R mx').1
          have hp : hd a (shr h p) = true := by
            rw [es]
            unfold hd
            rw [run_succ]
            simp
          have npx : p ≠ x.1 := fun e => (mem_nexts.mp mx).2.2.2.1 (by rw [← e]; exact List.mem_cons_self)
          have := places_cnt (h := h) (p := hd a) (ps := [p, x.1]) (by simp [npx]) fun i mi => by
            simp only [List.mem_cons, List.not_mem_nil, or_false] at mi
            rcases mi with rfl | rfl
            · exact ⟨h0, h1, hp⟩
            · exact ⟨(mem_nexts.mp mx).1, (mem_nexts.mp mx).2.1, hx⟩
          have := R.one a q
          simp only [List.length_cons, List.length_nil] at *
          omega
        rw [ne, nn]
        rfl
      show wys h [p] (shr h p) ≤ _
      rw [z]
      exact Nat.zero_le _
  have sum : ∀ l : List (List Int × List Nat), (∀ b ∈ l, wys h b.1 b.2 ≤ if hd 97 b.2 = true then 1 else 0) → (l.map fun b => wys h b.1 b.2).sum ≤ (l.map (·.2)).countP (hd 97) := by
    intro l
    induction l with
    | nil => intro _; exact Nat.zero_le _
    | cons b l ih =>
      intro hb
      have i := ih fun x m => hb x (List.mem_cons_of_mem _ m)
      have j := hb b List.mem_cons_self
      rw [List.map_cons, List.sum_cons, List.map_cons, List.countP_cons]
      split at j <;> rename_i q
      · rw [if_pos q]; omega
      · rw [if_neg q]; omega
  have e : (begins h).map (·.2) = h := by
    unfold begins
    rw [List.map_map]
    have := map_rngI (h := h) (fun s => s)
    unfold rngI at this
    rw [List.map_map] at this
    refine Eq.trans (show _ = List.map ((fun i => shr h i) ∘ fun (i : Nat) => (i : Int)) (List.range h.length) from rfl) ?_
    simpa using this
  have := sum _ each
  rw [e] at this
  exact Nat.le_trans this R.two
end
end Tt

namespace Tt
/-! ### the pieces of a text -/
def pce (t : List Nat) (e : Nat → Nat) (m : Nat) : List (List Nat) := (List.range m).map fun i => (t.take (e (i + 1))).drop (e i)
structure Ends (e : Nat → Nat) (m n : Nat) : Prop where
  z : e 0 = 0
  f : e m = n
  lt : ∀ i, i < m → e i < e (i + 1)
theorem Ends.mono {e : Nat → Nat} {m n : Nat} (E : Ends e m n) : ∀ {i j : Nat}, i < j → j ≤ m → e i < e j := by
  intro i j h hj
  induction j with
  | zero => omega
  | succ j ih =>
    have := E.lt j (by omega)
    by_cases q : i = j
    · subst q; exact this
    · have := ih (by omega) (by omega)
      omega
theorem Ends.le {e : Nat → Nat} {m n : Nat} (E : Ends e m n) {i : Nat} (h : i ≤ m) : e i ≤ n := by
  by_cases q : i = m
  · rw [q, E.f]; exact Nat.le_refl _
  · have := E.mono (i := i) (j := m) (by omega) (Nat.le_refl _)
    rw [E.f] at this
    omega
theorem pce_len (t : List Nat) (e : Nat → Nat) (m : Nat) : (pce t e m).length = m := by simp [pce]
theorem pce_take (t : List Nat) (e : Nat → Nat) {m j : Nat} (h : j ≤ m) : (pce t e m).take j = pce t e j := by
  unfold pce
  rw [← List.map_take, List.take_range, Nat.min_eq_left h]
theorem pce_succ (t : List Nat) (e : Nat → Nat) (m : Nat) : pce t e (m + 1) = pce t e m ++ [(t.take (e (m + 1))).drop (e m)] := by
  unfold pce
  rw [List.range_succ, List.map_append]
  rfl
theorem pce_flat {t : List Nat} {e : Nat → Nat} {m : Nat} (E : Ends e m t.length) : ∀ {j : Nat}, j ≤ m → (pce t e j).flatten = t.take (e j) := by
  intro j hj
  induction j with
  | zero =>
    rw [E.z]
    simp [pce]
  | succ j ih =>
    rw [pce_succ, List.flatten_append, ih (by omega)]
    have := E.lt j (by omega)
    have e1 : t.take (e j) = (t.take (e (j + 1))).take (e j) := by rw [List.take_take, Nat.min_eq_left (by omega)]
    rw [e1]
    simp [List.take_append_drop]
theorem pce_flat_len {t : List Nat} {e : Nat → Nat} {m : Nat} (E : Ends e m t.length) {j : Nat} (h : j ≤ m) : (pce t e j).flatten.length = e j := by
  rw [pce_flat E h, List.length_take]
  have := E.le h
  omega
theorem mem_pce {t : List Nat} {e : Nat → Nat} {m : Nat} {s : List Nat} : s ∈ pce t e m ↔ ∃ i, i < m ∧ s = (t.take (e (i + 1))).drop (e i) := by
  unfold pce
  rw [List.mem_map]
  constructor
  · rintro ⟨i, hi, rfl⟩; exact ⟨i, List.mem_range.mp hi, rfl⟩
  · rintro ⟨i, hi, rfl⟩; exact ⟨i, List.mem_range.mpr hi, rfl⟩
theorem pce_each {t : List Nat} {e : Nat → Nat} {m : Nat} (E : Ends e m t.length) {s : List Nat} (h : s ∈ pce t e m) : 1 ≤ s.length ∧ s.length ≤ t.length ∧ ∀ c ∈ s, c ∈ t := by
  obtain ⟨i, hi, rfl⟩ := mem_pce.mp h
  have h1 := E.lt i hi
  have h2 := E.le (i := i + 1) (by omega)
  rw [List.length_drop, List.length_take]
  refine ⟨by omega, by omega, fun c mc => List.mem_of_mem_take (List.mem_of_mem_drop mc)⟩
theorem run_take (a n k : Nat) (h : k ≤ n) : (run a n).take k = run a k := by
  unfold run
  rw [← List.map_take, List.take_range, Nat.min_eq_left h]
theorem pce_run {e : Nat → Nat} {m n : Nat} (E : Ends e m n) {i : Nat} (hi : i < m) : ((run 97 n).take (e (i + 1))).drop (e i) = run (97 + e i) (e (i + 1) - e i) := by
  rw [run_take _ _ _ (E.le (by omega)), run_drop]
theorem cnt_pce {e : Nat → Nat} {m n : Nat} (E : Ends e m n) (c : Nat) : (pce (run 97 n) e m).countP (hd c) ≤ 1 ∧ (0 < (pce (run 97 n) e m).countP (hd c) → ∃ i, i < m ∧ c = 97 + e i) := by
  have hh : ∀ i, i < m → hd c (((run 97 n).take (e (i + 1))).drop (e i)) = true → c = 97 + e i := by
    intro i hi q
    rw [pce_run E hi] at q
    have := E.lt i hi
    obtain ⟨k, hk⟩ : ∃ k, e (i + 1) - e i = k + 1 := ⟨e (i + 1) - e i - 1, by omega⟩
    rw [hk, run_succ] at q
    unfold hd at q
    simp at q
    exact q.symm
  refine ⟨?_, fun p => ?_⟩
  · have key : ∀ j, j ≤ m → ((pce (run 97 n) e j).countP (hd c) ≤ 1 ∧ (0 < (pce (run 97 n) e j).countP (hd c) → ∃ i, i < j ∧ c = 97 + e i)) := by
      intro j hj
      induction j with
      | zero => exact ⟨Nat.zero_le _, fun p => absurd p (Nat.lt_irrefl _)⟩
      | succ j ih =>
        obtain ⟨i1, i2⟩ := ih (by omega)
        rw [pce_succ, List.countP_append, List.countP_singleton]
        by_cases q : hd c (((run 97 n).take (e (j + 1))).drop (e j)) = true
        · rw [if_pos q]
          have cj := hh j (by omega) q
          have z : (pce (run 97 n) e j).countP (hd c) = 0 := by
            apply Decidable.byContradiction
            intro nz
            obtain ⟨i, hi, ci⟩ := i2 (by omega)
            have := E.mono (i := i) (j := j) hi (by omega)
            omega
          rw [z]
          exact ⟨Nat.le_refl _, fun _ => ⟨j, by omega, cj⟩⟩
        · rw [if_neg q]
          refine ⟨by omega, fun p => ?_⟩
          obtain ⟨i, hi, ci⟩ := i2 (by omega)
          exact ⟨i, by omega, ci⟩
    exact (key m (Nat.le_refl _)).1
  · obtain ⟨s, ms, hs⟩ := List.countP_pos_iff.mp p
    obtain ⟨i, hi, rfl⟩ := mem_pce.mp ms
    exact ⟨i, hi, hh i hi hs⟩
/-- the heap of two tearings -/
structure Two (e1 e2 : Nat → Nat) (m1 m2 n : Nat) : Prop where
  a : Ends e1 m1 n
  b : Ends e2 m2 n
  p1 : 0 < m1
  p2 : 0 < m2
  ct : m1 + m2 ≤ 8
  n10 : n ≤ 10
  dj : ∀ i j, 0 < i → i < m1 → 0 < j → j < m2 → e1 i ≠ e2 j
def hp2 (t : List Nat) (e1 e2 : Nat → Nat) (m1 m2 : Nat) : List (List Nat) := (pce t e1 m1 ++ pce t e2 m2).mergeSort fun a b => decide (a ≤ b)
theorem hp2_perm (t : List Nat) (e1 e2 : Nat → Nat) (m1 m2 : Nat) : (pce t e1 m1 ++ pce t e2 m2).Perm (hp2 t e1 e2 m1 m2) := (List.mergeSort_perm _ _).symm
theorem hp2_hv {t : List Nat} {e1 e2 : Nat → Nat} {m1 m2 : Nat} (W : Two e1 e2 m1 m2 t.length) (ch : ∀ c ∈ t, c ∈ lettersL) : Hv (hp2 t e1 e2 m1 m2) := by
  have pl := (hp2_perm t e1 e2 m1 m2).length_eq
  rw [List.length_append, pce_len, pce_len] at pl
  have w1 := W.p1
  have w2 := W.p2
  have w3 := W.ct
  have w4 := W.n10
  refine ⟨by omega, by omega, fun s m => ?_, ?_⟩
  · rcases List.mem_append.mp ((hp2_perm t e1 e2 m1 m2).mem_iff.mpr m) with m | m
    · obtain ⟨a, b, c⟩ := pce_each W.a m
      exact ⟨a, by omega, fun x mx => ch x (c x mx)⟩
    · obtain ⟨a, b, c⟩ := pce_each W.b m
      exact ⟨a, by omega, fun x mx => ch x (c x mx)⟩
  · unfold hp2
    refine (List.pairwise_mergeSort (le := fun a b : List Nat => decide (a ≤ b)) (fun a b c h1 h2 => ?_) (fun a b => ?_) _).imp fun h => of_decide_eq_true h
    · simp only [decide_eq_true_eq] at *
      exact List.le_trans h1 h2
    · simp only [Bool.or_eq_true, decide_eq_true_eq]
      exact List.le_total a b
theorem hp2_text {t : List Nat} {e1 e2 : Nat → Nat} {m1 m2 : Nat} (W : Two e1 e2 m1 m2 t.length) (ch : ∀ c ∈ t, c ∈ lettersL) : t ∈ textsU (hp2 t e1 e2 m1 m2) := by
  have hv := hp2_hv W ch
  have ne : ∀ s ∈ hp2 t e1 e2 m1 m2, s ≠ [] := fun s m e => by
    have := (hv.each s m).1
    rw [e] at this
    exact absurd this (by decide)
  obtain ⟨p, pp, pm⟩ := places_of _ (hp2_perm t e1 e2 m1 m2)
  have lp : p.length = m1 + m2 := by
    have := congrArg List.length pm
    rw [List.length_map, List.length_append, pce_len, pce_len] at this
    exact this
  have pA : (p.take m1).map (shr (hp2 t e1 e2 m1 m2)) = pce t e1 m1 := by
    rw [List.map_take, pm, List.take_append_of_le_length (by rw [pce_len]; exact Nat.le_refl _), List.take_of_length_le (by rw [pce_len]; exact Nat.le_refl _)]
  have pB : (p.drop m1).map (shr (hp2 t e1 e2 m1 m2)) = pce t e2 m2 := by
    rw [List.map_drop, pm, List.drop_append_of_le_length (by rw [pce_len]; exact Nat.le_refl _), List.drop_eq_nil_of_le (by rw [pce_len]; exact Nat.le_refl _), List.nil_append]
  have jA : ∀ i, i ≤ m1 → joinT (hp2 t e1 e2 m1 m2) ((p.take m1).take i) = (pce t e1 i).flatten := fun i hi => by
    unfold joinT
    rw [List.map_take, pA, pce_take _ _ hi]
  have jB : ∀ i, i ≤ m2 → joinT (hp2 t e1 e2 m1 m2) ((p.drop m1).take i) = (pce t e2 i).flatten := fun i hi => by
    unfold joinT
    rw [List.map_take, pB, pce_take _ _ hi]
  have lA : (p.take m1).length = m1 := by rw [List.length_take]; omega
  have lB : (p.drop m1).length = m2 := by rw [List.length_drop]; omega
  have fA : joinT (hp2 t e1 e2 m1 m2) (p.take m1) = t := by
    have := jA m1 (Nat.le_refl _)
    rw [List.take_of_length_le (by omega), pce_flat W.a (Nat.le_refl _), W.a.f, List.take_length] at this
    exact this
  have fB : joinT (hp2 t e1 e2 m1 m2) (p.drop m1) = t := by
    have := jB m2 (Nat.le_refl _)
    rw [List.take_of_length_le (by omega), pce_flat W.b (Nat.le_refl _), W.b.f, List.take_length] at this
    exact this
  refine (mem_textsU ne).mpr ⟨(p.take m1, p.drop m1), (mem_ordL ne).mpr ⟨fun e => ?_, by rw [List.take_append_drop]; exact pp, fA.trans fB.symm, fun i j i0 hi hj => ?_⟩, fA.symm⟩
  · have e : p.take m1 = [] := e
    rw [e] at lA
    have := W.p1
    simp at lA
    omega
  · have hi : i < (p.take m1).length := hi
    have hj : j < (p.drop m1).length := hj
    show (joinT _ ((p.take m1).take i)).length ≠ (joinT _ ((p.drop m1).take j)).length
    rw [jA i (by omega), jB j (by omega), pce_flat_len W.a (by omega), pce_flat_len W.b (by omega)]
    cases j with
    | zero =>
      rw [W.b.z]
      have := W.a.mono (i := 0) (j := i) i0 (by omega)
      omega
    | succ j => exact W.dj i (j + 1) i0 (by omega) (by omega) (by omega)
theorem hp2_one {e1 e2 : Nat → Nat} {m1 m2 n : Nat} (W : Two e1 e2 m1 m2 n) : Run1 (hp2 (run 97 n) e1 e2 m1 m2) := by
  have pe := hp2_perm (run 97 n) e1 e2 m1 m2
  have cnt : ∀ c, (hp2 (run 97 n) e1 e2 m1 m2).countP (hd c) = (pce (run 97 n) e1 m1).countP (hd c) + (pce (run 97 n) e2 m2).countP (hd c) := fun c => by
    rw [← pe.countP_eq, List.countP_append]
  refine ⟨fun s m => ?_, fun c hc => ?_, ?_⟩
  · have go : ∀ {e : Nat → Nat} {m : Nat}, Ends e m n → s ∈ pce (run 97 n) e m → ∃ a k, s = run a (k + 1) ∧ 97 ≤ a := by
      intro e m E ms
      obtain ⟨i, hi, rfl⟩ := mem_pce.mp ms
      have := E.lt i hi
      refine ⟨97 + e i, e (i + 1) - e i - 1, ?_, by omega⟩
      rw [pce_run E hi]
      congr 1
      omega
    rcases List.mem_append.mp (pe.mem_iff.mpr m) with m | m
    · exact go W.a m
    · exact go W.b m
  · rw [cnt]
    obtain ⟨a1, a2⟩ := cnt_pce W.a c
    obtain ⟨b1, b2⟩ := cnt_pce W.b c
    apply Decidable.byContradiction
    intro z
    obtain ⟨i, hi, ci⟩ := a2 (by omega)
    obtain ⟨j, hj, cj⟩ := b2 (by omega)
    have i0 : 0 < i := by
      apply Decidable.byContradiction
      intro q
      have : i = 0 := by omega
      subst this
      rw [W.a.z] at ci
      exact hc ci
    have j0 : 0 < j := by
      apply Decidable.byContradiction
      intro q
      have : j = 0 := by omega
      subst this
      rw [W.b.z] at cj
      exact hc cj
    exact W.dj i j i0 hi j0 hj (by omega)
  · rw [cnt]
    have := (cnt_pce W.a 97).1
    have := (cnt_pce W.b 97).1
    omega
end Tt

/-! All layings, by all lots and all orders. -/
namespace Tt
/-- without a place -/
def wo (l : List Int) (p : Int) : List Int := l.filter fun x => !decide (x = p)
def ordF : Nat → List Int → List (List Int)
  | 0, l => if l = [] then [[]] else []
  | n + 1, l => if l = [] then [[]] else l.flatMap fun p => (ordF n (wo l p)).map (p :: ·)
def rowF (h : List (List Nat)) : Nat → List Int → List Nat → List (List Int)
  | 0, l, t => if l = [] then (if t = [] then [[]] else []) else []
  | n + 1, l, t => if l = [] then (if t = [] then [[]] else []) else l.flatMap fun p => if (shr h p).isPrefixOf t = true then (rowF h n (wo l p) (t.drop (shr h p).length)).map (p :: ·) else []
theorem wo_perm {l : List Int} (nd : l.Nodup) {p : Int} (m : p ∈ l) : (p :: wo l p).Perm l := by
  induction l with
  | nil => exact absurd m List.not_mem_nil
  | cons x l ih =>
    have nx := (List.nodup_cons.mp nd)
    unfold wo
    rw [List.filter_cons]
    by_cases e : x = p
    · subst e
      rw [if_neg (by simp)]
      have : l.filter (fun y => !decide (y = x)) = l := by
        rw [List.filter_eq_self]
        intro y my
        have : y ≠ x := fun z => nx.1 (z ▸ my)
        simp [this]
      rw [this]
    · rw [if_pos (by simp [e])]
      have mp : p ∈ l := (List.mem_cons.mp m).resolve_left fun z => e z.symm
      exact (List.Perm.swap x p _).trans ((ih nx.2 mp).cons x)
theorem wo_nodup {l : List Int} (nd : l.Nodup) (p : Int) : (wo l p).Nodup := nd.filter _
theorem wo_len {l : List Int} (nd : l.Nodup) {p : Int} (m : p ∈ l) : (wo l p).length + 1 = l.length := by
  have := (wo_perm nd m).length_eq
  simpa using this
theorem not_mem_wo {l : List Int} {p : Int} : p ∉ wo l p := by unfold wo; simp
theorem mem_wo {l : List Int} {p x : Int} (m : x ∈ wo l p) : x ∈ l := (List.mem_filter.mp m).1
theorem mem_ordF : ∀ {n : Nat} {l : List Int}, l.Nodup → l.length ≤ n → ∀ r, r ∈ ordF n l ↔ r.Perm l
  | 0, l, nd, hl, r => by
    have e : l = [] := List.length_eq_zero_iff.mp (by omega)
    subst e
    simp [ordF]
  | n + 1, l, nd, hl, r => by
    unfold ordF
    by_cases e : l = []
    · subst e
      simp
    · rw [if_neg e, List.mem_flatMap]
      constructor
      · rintro ⟨p, mp, mr⟩
        obtain ⟨r', mr', rfl⟩ := List.mem_map.mp mr
        have k := (mem_ordF (wo_nodup nd p) (by have := wo_len nd mp; omega) r').mp mr'
        exact (k.cons p).trans (wo_perm nd mp)
      · intro pm
        cases r with
        | nil => exact absurd pm.symm.eq_nil e
        | cons p r' =>
          have mp : p ∈ l := pm.mem_iff.mp List.mem_cons_self
          refine ⟨p, mp, List.mem_map.mpr ⟨r', (mem_ordF (wo_nodup nd p) (by have := wo_len nd mp; omega) r').mpr ?_, rfl⟩⟩
          exact (pm.trans (wo_perm nd mp).symm).cons_inv
theorem nodup_ordF : ∀ {n : Nat} {l : List Int}, l.Nodup → (ordF n l).Nodup
  | 0, l, nd => by
    unfold ordF
    split
    · exact List.pairwise_singleton _ _
    · exact List.nodup_nil
  | n + 1, l, nd => by
    unfold ordF
    split
    · exact List.pairwise_singleton _ _
    · show List.Pairwise _ _
      rw [List.pairwise_flatMap]
      refine ⟨fun p mp => ?_, nd.imp fun {p q} hne a ha b hb e => ?_⟩
      · rw [List.pairwise_map]
        exact (nodup_ordF (wo_nodup nd p)).imp fun hne z => hne (List.cons.inj z).2
      · obtain ⟨_, _, rfl⟩ := List.mem_map.mp ha
        obtain ⟨_, _, rfl⟩ := List.mem_map.mp hb
        exact hne (List.cons.inj e).1
theorem sum_le_mul {α : Type} (f : α → Nat) (b : Nat) : ∀ l : List α, (∀ x ∈ l, f x ≤ b) → (l.map f).sum ≤ l.length * b
  | [], _ => by simp
  | x :: l, h => by
    have h1 := h x List.mem_cons_self
    have h2 := sum_le_mul f b l fun y m => h y (List.mem_cons_of_mem _ m)
    rw [List.map_cons, List.sum_cons, List.length_cons, Nat.add_mul]
    omega
theorem ordF_len : ∀ {n : Nat} {l : List Int}, l.Nodup → l.length ≤ n → (ordF n l).length ≤ fac n
  | 0, l, nd, hl => by
    unfold ordF
    split <;> simp [fac]
  | n + 1, l, nd, hl => by
    unfold ordF
    split
    · have := fac_pos (n + 1)
      simpa using this
    · rw [List.length_flatMap]
      refine Nat.le_trans (sum_le_mul _ (fac n) l fun p mp => ?_) ?_
      · rw [List.length_map]
        exact ordF_len (wo_nodup nd p) (by have := wo_len nd mp; omega)
      · exact Nat.mul_le_mul_right _ hl
theorem rowF_len {h : List (List Nat)} : ∀ {n : Nat} {l : List Int} {t : List Nat}, l.Nodup → l.length ≤ n → (rowF h n l t).length ≤ fac n
  | 0, l, t, nd, hl => by
    unfold rowF
    split
    · split <;> simp [fac]
    · simp [fac]
  | n + 1, l, t, nd, hl => by
    unfold rowF
    split
    · have := fac_pos (n + 1)
      split <;> simp <;> omega
    · rw [List.length_flatMap]
      refine Nat.le_trans (sum_le_mul _ (fac n) l fun p mp => ?_) ?_
      · split
        · rw [List.length_map]
          exact rowF_len (wo_nodup nd p) (by have := wo_len nd mp; omega)
        · exact Nat.zero_le _
      · exact Nat.mul_le_mul_right _ hl
theorem pre_drop {a t : List Nat} (h : a.isPrefixOf t = true) : t = a ++ t.drop a.length := by
  obtain ⟨r, rfl⟩ := List.isPrefixOf_iff_prefix.mp h
  simp
theorem mem_rowF {h : List (List Nat)} : ∀ {n : Nat} {l : List Int} {t : List Nat}, l.Nodup → l.length ≤ n → ∀ r, r ∈ rowF h n l t ↔ r.Perm l ∧ joinT h r = t
  | 0, l, t, nd, hl, r => by
    have e : l = [] := List.length_eq_zero_iff.mp (by omega)
    subst e
    unfold rowF
    rw [if_pos rfl]
    constructor
    · intro m
      split at m
      · rename_i e
        rw [List.mem_singleton.mp m, e]
        exact ⟨.nil, rfl⟩
      · exact absurd m List.not_mem_nil
    · rintro ⟨pm, e⟩
      have er := pm.eq_nil
      subst er
      rw [joinT_nil] at e
      rw [if_pos e.symm]
      exact List.mem_singleton.mpr rfl
  | n + 1, l, t, nd, hl, r => by
    unfold rowF
    by_cases e : l = []
    · subst e
      rw [if_pos rfl]
      constructor
      · intro m
        split at m
        · rename_i e
          rw [List.mem_singleton.mp m, e]
          exact ⟨.nil, rfl⟩
        · exact absurd m List.not_mem_nil
      · rintro ⟨pm, e⟩
        have er := pm.eq_nil
        subst er
        rw [joinT_nil] at e
        rw [if_pos e.symm]
        exact List.mem_singleton.mpr rfl
    · rw [if_neg e, List.mem_flatMap]
      constructor
      · rintro ⟨p, mp, mr⟩
        split at mr
        · rename_i hp
          obtain ⟨r', mr', rfl⟩ := List.mem_map.mp mr
          obtain ⟨k1, k2⟩ := (mem_rowF (wo_nodup nd p) (by have := wo_len nd mp; omega) r').mp mr'
          refine ⟨(k1.cons p).trans (wo_perm nd mp), ?_⟩
          rw [joinT_cons, k2]
          exact (pre_drop hp).symm
        · exact absurd mr List.not_mem_nil
      · rintro ⟨pm, et⟩
        cases r with
        | nil => exact absurd pm.symm.eq_nil e
        | cons p r' =>
          have mp : p ∈ l := pm.mem_iff.mp List.mem_cons_self
          rw [joinT_cons] at et
          have hp : (shr h p).isPrefixOf t = true := List.isPrefixOf_iff_prefix.mpr ⟨_, et⟩
          refine ⟨p, mp, ?_⟩
          rw [if_pos hp]
          refine List.mem_map.mpr ⟨r', (mem_rowF (wo_nodup nd p) (by have := wo_len nd mp; omega) r').mpr ⟨(pm.trans (wo_perm nd mp).symm).cons_inv, ?_⟩, rfl⟩
          rw [← et]
          simp
theorem nodup_rowF {h : List (List Nat)} : ∀ {n : Nat} {l : List Int} {t : List Nat}, l.Nodup → (rowF h n l t).Nodup
  | 0, l, t, nd => by
    unfold rowF
    split
    · split
      · exact List.pairwise_singleton _ _
      · exact List.nodup_nil
    · exact List.nodup_nil
  | n + 1, l, t, nd => by
    unfold rowF
    split
    · split
      · exact List.pairwise_singleton _ _
      · exact List.nodup_nil
    · show List.Pairwise _ _
      rw [List.pairwise_flatMap]
      refine ⟨fun p mp => ?_, nd.imp fun {p q} hne a ha b hb e => ?_⟩
      · split
        · rw [List.pairwise_map]
          exact (nodup_rowF (wo_nodup nd p)).imp fun hne z => hne (List.cons.inj z).2
        · exact List.Pairwise.nil
      · split at ha
        · split at hb
          · obtain ⟨_, _, rfl⟩ := List.mem_map.mp ha
            obtain ⟨_, _, rfl⟩ := List.mem_map.mp hb
            exact hne (List.cons.inj e).1
          · exact absurd hb List.not_mem_nil
        · exact absurd ha List.not_mem_nil
/-- the lots that hold the first place -/
def lotF : Nat → List (List Int)
  | 0 => [[0]]
  | k + 1 => lotF k ++ (lotF k).map (· ++ [(1 : Int) + (k : Int)])
theorem lotF_len : ∀ k, (lotF k).length = 2 ^ k
  | 0 => rfl
  | k + 1 => by rw [lotF, List.length_append, List.length_map, lotF_len k, Nat.pow_succ]; omega
theorem mem_lotF : ∀ {k : Nat} {l : List Int}, l ∈ lotF k ↔ l.Pairwise (· < ·) ∧ (0 : Int) ∈ l ∧ ∀ x ∈ l, 0 ≤ x ∧ x ≤ k
  | 0, l => by
    unfold lotF
    rw [List.mem_singleton]
    constructor
    · rintro rfl
      exact ⟨List.pairwise_singleton _ _, List.mem_singleton.mpr rfl, fun x m => by rw [List.mem_singleton.mp m]; exact ⟨Int.le_refl _, Int.le_refl _⟩⟩
    · rintro ⟨pw, m0, b⟩
      cases l with
      | nil => exact absurd m0 List.not_mem_nil
      | cons x l =>
        have b1 := b x List.mem_cons_self
        cases l with
        | nil =>
          have : x = 0 := by omega
          rw [this]
        | cons y l =>
          have b2 := b y (List.mem_cons_of_mem _ List.mem_cons_self)
          have := (List.pairwise_cons.mp pw).1 y List.mem_cons_self
          omega
  | k + 1, l => by
    unfold lotF
    rw [List.mem_append]
    constructor
    · rintro (m | m)
      · obtain ⟨pw, m0, b⟩ := mem_lotF.mp m
        exact ⟨pw, m0, fun x mx => by have := b x mx; omega⟩
      · obtain ⟨l', m', rfl⟩ := List.mem_map.mp m
        obtain ⟨pw, m0, b⟩ := mem_lotF.mp m'
        refine ⟨?_, List.mem_append_left _ m0, fun x mx => ?_⟩
        · rw [List.pairwise_append]
          exact ⟨pw, List.pairwise_singleton _ _, fun x mx y my => by rw [List.mem_singleton.mp my]; have := b x mx; omega⟩
        · rcases List.mem_append.mp mx with mx | mx
          · have := b x mx; omega
          · rw [List.mem_singleton.mp mx]; omega
    · rintro ⟨pw, m0, b⟩
      by_cases c : (1 : Int) + (k : Int) ∈ l
      · right
        have hne : l ≠ [] := fun e => by rw [e] at c; exact absurd c List.not_mem_nil
        have e := (List.dropLast_concat_getLast hne).symm
        generalize l.getLast hne = z at e
        generalize l.dropLast = l' at e
        subst e
        rw [List.pairwise_append] at pw
        have hz : z = 1 + (k : Int) := by
          have b1 := b z (List.mem_append_right _ (List.mem_singleton.mpr rfl))
          rcases List.mem_append.mp c with c | c
          · have := pw.2.2 _ c z (List.mem_singleton.mpr rfl)
            omega
          · exact (List.mem_singleton.mp c).symm
        subst hz
        refine List.mem_map.mpr ⟨l', mem_lotF.mpr ⟨pw.1, ?_, fun x mx => ?_⟩, rfl⟩
        · rcases List.mem_append.mp m0 with m | m
          · exact m
          · have := List.mem_singleton.mp m; omega
        · have h1 := pw.2.2 x mx _ (List.mem_singleton.mpr rfl)
          have h2 := b x (List.mem_append_left _ mx)
          omega
      · left
        refine mem_lotF.mpr ⟨pw, m0, fun x mx => ?_⟩
        have h2 := b x mx
        have : x ≠ 1 + (k : Int) := fun e => c (e ▸ mx)
        omega
theorem nodup_lotF : ∀ k, (lotF k).Nodup
  | 0 => List.pairwise_singleton _ _
  | k + 1 => by
    unfold lotF
    rw [List.nodup_append]
    refine ⟨nodup_lotF k, ?_, fun a ha b hb e => ?_⟩
    · show List.Pairwise _ _
      rw [List.pairwise_map]
      exact (nodup_lotF k).imp fun hne z => hne (List.append_cancel_right z)
    · obtain ⟨l', m', rfl⟩ := List.mem_map.mp hb
      have := ((mem_lotF.mp ha).2.2 (1 + (k : Int)) (by rw [e]; exact List.mem_append_right _ (List.mem_singleton.mpr rfl)))
      omega
/-- the places that a lot leaves -/
def rst (n : Nat) (lot : List Int) : List Int := (rngI n).filter fun x => !decide (x ∈ lot)
noncomputable def laidB (h : List (List Nat)) (L : LY) : Bool := @decide (Lay h L.1 L.2 ∧ (0 : Int) ∈ L.1) (Classical.propDecidable _)
noncomputable def lotB (h : List (List Nat)) (lot : List Int) : List LY :=
  if 2 * (joinT h lot).length = (h.map List.length).sum then (ordF 8 lot).flatMap fun one => ((rowF h 8 (rst h.length lot) (joinT h one)).filter fun other => laidB h (one, other)).map fun other => (one, other) else []
noncomputable def brute (h : List (List Nat)) : List LY := (lotF (h.length - 1)).flatMap (lotB h)
section
variable {h : List (List Nat)}
theorem laidB_iff {L : LY} : laidB h L = true ↔ Lay h L.1 L.2 ∧ (0 : Int) ∈ L.1 := by unfold laidB; exact @decide_eq_true_iff _ (Classical.propDecidable _)
theorem rst_nodup (n : Nat) (lot : List Int) : (rst n lot).Nodup := (rngI_nodup n).filter _
theorem rst_len (n : Nat) (lot : List Int) : (rst n lot).length ≤ n := by
  have := List.length_filter_le (fun x => !decide (x ∈ lot)) (rngI n)
  rw [rngI_len] at this
  exact this
theorem rst_mem {n : Nat} {lot : List Int} {x : Int} : x ∈ rst n lot ↔ (0 ≤ x ∧ x < n) ∧ x ∉ lot := by
  unfold rst
  rw [List.mem_filter, mem_rngI]
  simp
theorem perm_of_mem {a b : List Int} (na : a.Nodup) (nb : b.Nodup) (e : ∀ x, x ∈ a ↔ x ∈ b) : a.Perm b := (List.perm_ext_iff_of_nodup na nb).mpr e
theorem isNL_iff (ne : ∀ s ∈ h, s ≠ []) (h0 : 0 < h.length) {L : LY} : isNL h L ↔ Lay h L.1 L.2 ∧ (0 : Int) ∈ L.1 := by
  constructor
  · rintro ⟨L', m, rfl⟩
    have k := (mem_ordL ne).mp m
    unfold nrm
    split
    · rename_i c
      exact ⟨k, c⟩
    · rename_i c
      refine ⟨lay_swap ne k, ?_⟩
      have : (0 : Int) ∈ L'.1 ++ L'.2 := k.pm.mem_iff.mpr (mem_rngI.mpr ⟨Int.le_refl 0, by omega⟩)
      exact (List.mem_append.mp this).resolve_left c
  · rintro ⟨l, c⟩
    refine ⟨L, (mem_ordL ne).mpr l, ?_⟩
    unfold nrm
    rw [if_pos c]
theorem lot_ok (hi : h.length ≤ 8) (h0 : 0 < h.length) {lot : List Int} (m : lot ∈ lotF (h.length - 1)) : lot.Nodup ∧ lot.length ≤ 8 ∧ ∀ x ∈ lot, 0 ≤ x ∧ x < h.length := by
  obtain ⟨pw, _, b⟩ := mem_lotF.mp m
  have nd : lot.Nodup := pw.imp fun h => Int.ne_of_lt h
  have hb : ∀ x ∈ lot, 0 ≤ x ∧ x < h.length := fun x mx => by have := b x mx; omega
  refine ⟨nd, ?_, hb⟩
  have := nodup_le lot (rngI h.length) nd fun x mx => mem_rngI.mpr (hb x mx)
  rw [rngI_len] at this
  omega
theorem mem_brute (ne : ∀ s ∈ h, s ≠ []) (h0 : 0 < h.length) (hi : h.length ≤ 8) {L : LY} : L ∈ brute h ↔ isNL h L := by
  rw [isNL_iff ne h0]
  unfold brute
  rw [List.mem_flatMap]
  constructor
  · rintro ⟨lot, ml, mL⟩
    unfold lotB at mL
    split at mL
    · obtain ⟨one, mo, mL⟩ := List.mem_flatMap.mp mL
      obtain ⟨other, mt, rfl⟩ := List.mem_map.mp mL
      exact laidB_iff.mp (List.mem_filter.mp mt).2
    · exact absurd mL List.not_mem_nil
  · rintro ⟨l, c⟩
    have nd : (L.1 ++ L.2).Nodup := l.pm.nodup_iff.mpr (rngI_nodup _)
    obtain ⟨n1, n2, n3⟩ := List.nodup_append.mp nd
    have pl : ∀ x, x ∈ L.1 ∨ x ∈ L.2 ↔ 0 ≤ x ∧ x < h.length := fun x => by rw [← List.mem_append, l.pm.mem_iff, mem_rngI]
    have sp := List.mergeSort_perm L.1 fun a b => decide (a ≤ b)
    have ml : L.1.mergeSort (fun a b => decide (a ≤ b)) ∈ lotF (h.length - 1) := by
      refine mem_lotF.mpr ⟨?_, sp.mem_iff.mpr c, fun x mx => ?_⟩
      · have so : (L.1.mergeSort fun a b => decide (a ≤ b)).Pairwise fun a b => decide (a ≤ b) = true := List.pairwise_mergeSort (fun a b c h1 h2 => by
          simp only [decide_eq_true_eq] at *
          omega) (fun a b => by
          simp only [Bool.or_eq_true, decide_eq_true_eq]
          omega) _
        have nm : (L.1.mergeSort fun a b => decide (a ≤ b)).Nodup := sp.nodup_iff.mpr n1
        exact (so.and nm).imp fun {a b} ⟨h1, h2⟩ => by
          have := of_decide_eq_true h1
          omega
      · have := (pl x).mp (.inl (sp.mem_iff.mp mx))
        omega
    obtain ⟨k1, k2, k3⟩ := lot_ok hi h0 ml
    refine ⟨_, ml, ?_⟩
    unfold lotB
    have js : ∀ {a b : List Int}, a.Perm b → (joinT h a).length = (joinT h b).length := fun p => by
      rw [joinT_sum, joinT_sum]
      exact (p.map _).sum_nat
    have half : 2 * (joinT h (L.1.mergeSort fun a b => decide (a ≤ b))).length = (h.map List.length).sum := by
      rw [js sp]
      have m : joinT h L.1 ∈ textsU h := (mem_textsU ne).mpr ⟨L, (mem_ordL ne).mpr l, rfl⟩
      exact texts_half ne m
    rw [if_pos half]
    refine List.mem_flatMap.mpr ⟨L.1, (mem_ordF k1 k2 _).mpr sp.symm, List.mem_map.mpr ⟨L.2, List.mem_filter.mpr ⟨(mem_rowF (rst_nodup _ _) (Nat.le_trans (rst_len _ _) hi) _).mpr ⟨perm_of_mem n2 (rst_nodup _ _) fun x => ?_, l.tx.symm⟩, laidB_iff.mpr ⟨l, c⟩⟩, rfl⟩⟩
    rw [rst_mem, sp.mem_iff, ← pl x]
    constructor
    · intro m
      exact ⟨.inr m, fun m1 => n3 x m1 x m rfl⟩
    · rintro ⟨m | m, n⟩
      · exact absurd m n
      · exact m
theorem nodup_brute (h0 : 0 < h.length) (hi : h.length ≤ 8) : (brute h).Nodup := by
  unfold brute
  show List.Pairwise _ _
  rw [List.pairwise_flatMap]
  refine ⟨fun lot ml => ?_, (nodup_lotF (h.length - 1)).imp_of_mem fun {a b} ma mb hne x hx y hy e => ?_⟩
  · unfold lotB
    split
    · rw [List.pairwise_flatMap]
      obtain ⟨k1, k2, k3⟩ := lot_ok hi h0 ml
      refine ⟨fun one mo => ?_, (nodup_ordF k1).imp fun {p q} hne a ha b hb e => ?_⟩
      · rw [List.pairwise_map]
        exact ((nodup_rowF (rst_nodup _ _)).filter _).imp fun hne z => hne (Prod.mk.inj z).2
      · obtain ⟨_, _, rfl⟩ := List.mem_map.mp ha
        obtain ⟨_, _, rfl⟩ := List.mem_map.mp hb
        exact hne (Prod.mk.inj e).1
    · exact List.Pairwise.nil
  · have key : ∀ {lot : List Int} {z : LY}, lot ∈ lotF (h.length - 1) → z ∈ lotB h lot → z.1.Perm lot := fun {lot z} ml mz => by
      obtain ⟨k1, k2, k3⟩ := lot_ok hi h0 ml
      unfold lotB at mz
      split at mz
      · obtain ⟨one, mo, mL⟩ := List.mem_flatMap.mp mz
        obtain ⟨other, mt, rfl⟩ := List.mem_map.mp mL
        exact (mem_ordF k1 k2 _).mp mo
      · exact absurd mz List.not_mem_nil
    subst e
    have p := (key ma hx).symm.trans (key mb hy)
    exact hne (List.Perm.eq_of_pairwise (le := fun a b : Int => a < b) (fun a b _ _ h1 h2 => by omega) (mem_lotF.mp ma).1 (mem_lotF.mp mb).1 p)
theorem brute_many (ne : ∀ s ∈ h, s ≠ []) (h0 : 0 < h.length) (hi : h.length ≤ 8) : manyW h / 2 = (brute h).length := by
  rw [manyW_eq]
  have sw : ∀ L, L ∈ ordL h → (L.2, L.1) ∈ ordL h := fun L m => (mem_ordL ne).mpr (lay_swap ne ((mem_ordL ne).mp m))
  have zero : ∀ L, L ∈ ordL h → ((0 : Int) ∈ L.1 ↔ ¬ (0 : Int) ∈ L.2) := fun L m => by
    have k := (mem_ordL ne).mp m
    have nd : (L.1 ++ L.2).Nodup := k.pm.nodup_iff.mpr (rngI_nodup _)
    have z : (0 : Int) ∈ L.1 ++ L.2 := k.pm.mem_iff.mpr (mem_rngI.mpr ⟨Int.le_refl 0, by omega⟩)
    constructor
    · intro a b
      exact (List.nodup_append.mp nd).2.2 0 a 0 b rfl
    · intro a
      exact (List.mem_append.mp z).resolve_right a
  have pb : (brute h).Perm ((ordL h).filter fun L => decide ((0 : Int) ∈ L.1)) := (List.perm_ext_iff_of_nodup (nodup_brute h0 hi) (nodup_ordL.filter _)).mpr fun L => by
    rw [mem_brute ne h0 hi, isNL_iff ne h0, List.mem_filter, mem_ordL ne, decide_eq_true_eq]
  have p2 : ((ordL h).filter fun L => !decide ((0 : Int) ∈ L.1)).Perm (((ordL h).filter fun L => decide ((0 : Int) ∈ L.1)).map fun L => (L.2, L.1)) := by
    refine (List.perm_ext_iff_of_nodup (nodup_ordL.filter _) ?_).mpr fun L => ?_
    · show List.Pairwise _ _
      rw [List.pairwise_map]
      exact (nodup_ordL.filter _).imp fun {a b} hne e => hne (by
        simp only [Prod.mk.injEq] at e
        exact Prod.ext e.2 e.1)
    · rw [List.mem_filter, List.mem_map]
      constructor
      · rintro ⟨m, z⟩
        refine ⟨(L.2, L.1), List.mem_filter.mpr ⟨sw L m, ?_⟩, rfl⟩
        have k := zero _ (sw L m)
        have z' : ¬ (0 : Int) ∈ L.1 := by simpa using z
        exact decide_eq_true (k.mpr z')
      · rintro ⟨M, mM, rfl⟩
        obtain ⟨m, z⟩ := List.mem_filter.mp mM
        have z' := of_decide_eq_true z
        have k := (zero M m).mp z'
        refine ⟨sw M m, ?_⟩
        simpa using k
  have tot : (ordL h).length = ((ordL h).filter fun L => decide ((0 : Int) ∈ L.1)).length + ((ordL h).filter fun L => !decide ((0 : Int) ∈ L.1)).length := by
    generalize ordL h = l
    induction l with
    | nil => rfl
    | cons x l ih =>
      rw [List.length_cons, ih, List.filter_cons, List.filter_cons]
      by_cases c : (0 : Int) ∈ x.1 <;> simp [c] <;> omega
  have e2 := p2.length_eq
  rw [List.length_map] at e2
  rw [tot, e2, ← pb.length_eq]
  omega
end
end Tt

namespace Tt
section
variable {h : List (List Nat)}
theorem wys_fac : ∀ (n : Nat) {u : List Int} {r : List Nat}, Us h u → rm h u = n → wys h u r ≤ fac n
  | 0, u, r, U, e => by
    rw [wys_eq U, nexts_full U e]
    simp [fac]
    split <;> omega
  | n + 1, u, r, U, e => by
    rw [wys_eq U]
    have k : ((nexts h u r).map fun x => wys h x.2.1 x.2.2).sum ≤ (nexts h u r).length * fac n := sum_le_mul _ _ _ fun x m => wys_fac n (next_us U m).1 (by have := next_rm U m; omega)
    have l := nexts_rm (r := r) U
    rw [e] at l
    have k2 := Nat.mul_le_mul_right (fac n) l
    split
    · rename_i c
      rw [isE_nexts c]
      have := fac_pos (n + 1)
      simp
      omega
    · show 0 + _ ≤ (n + 1) * fac n
      omega
theorem manyW_fac {n : Nat} (e : h.length = n + 1) : manyW h ≤ fac (n + 1) := by
  unfold manyW
  have k : ((begins h).map fun b => wys h b.1 b.2).sum ≤ (begins h).length * fac n := sum_le_mul _ _ _ fun b m => by
    obtain ⟨v, l⟩ := begin_vs m
    exact wys_fac n v.us (by unfold rm; omega)
  have : (begins h).length = n + 1 := by simp [begins, e]
  rw [this] at k
  exact k
theorem manyW_le {n : Nat} (e : h.length ≤ n) (h0 : 0 < h.length) : manyW h ≤ fac n := by
  obtain ⟨m, em⟩ : ∃ m, h.length = m + 1 := ⟨h.length - 1, by omega⟩
  have := manyW_fac em
  exact Nat.le_trans this (fac_le (by omega))
theorem brute_len (ne : ∀ s ∈ h, s ≠ []) (h0 : 0 < h.length) (hi : h.length ≤ 8) : (brute h).length ≤ 20160 := by
  rw [← brute_many ne h0 hi]
  have := manyW_le hi h0
  have e : fac 8 = 40320 := by decide
  omega
theorem brute_len6 (ne : ∀ s ∈ h, s ≠ []) (h0 : 0 < h.length) (hi : h.length ≤ 6) : (brute h).length ≤ 360 := by
  rw [← brute_many ne h0 (by omega)]
  have := manyW_le hi h0
  have e : fac 6 = 720 := by decide
  omega
theorem texts_brute (ne : ∀ s ∈ h, s ≠ []) (h0 : 0 < h.length) (hi : h.length ≤ 8) {t : List Nat} : t ∈ textsU h ↔ t ∈ (brute h).map fun L => joinT h L.1 := by
  rw [mem_textsU ne, List.mem_map]
  constructor
  · rintro ⟨L, m, rfl⟩
    have l := (mem_ordL ne).mp m
    refine ⟨nrm L, (mem_brute ne h0 hi).mpr ⟨L, m, rfl⟩, ?_⟩
    unfold nrm
    split
    · rfl
    · exact l.tx.symm
  · rintro ⟨L, m, rfl⟩
    have k := (isNL_iff ne h0).mp ((mem_brute ne h0 hi).mp m)
    exact ⟨L, (mem_ordL ne).mpr k.1, rfl⟩
theorem texts_none (ne : ∀ s ∈ h, s ≠ []) (e : manyW h = 0) : textsU h = [] := by
  rw [manyW_eq] at e
  have o : ordL h = [] := List.length_eq_zero_iff.mp e
  cases q : textsU h with
  | nil => rfl
  | cons t l =>
    obtain ⟨L, m, _⟩ := (mem_textsU ne).mp (show t ∈ textsU h by rw [q]; exact List.mem_cons_self)
    rw [o] at m
    exact absurd m List.not_mem_nil
/-! ### reckoning small heaps -/
def insK : List Int → Int → List Int
  | [], p => [p]
  | x :: u, p => if p ≤ x then p :: x :: u else x :: insK u p
theorem insK_perm : ∀ (u : List Int) (p : Int), (insK u p).Perm (p :: u)
  | [], p => .refl _
  | x :: u, p => by
    unfold insK
    split
    · exact .refl _
    · exact ((insK_perm u p).cons x).trans (.swap p x u)
theorem insK_pw : ∀ {u : List Int} {p : Int}, u.Pairwise (· ≤ ·) → (insK u p).Pairwise (· ≤ ·)
  | [], p, _ => List.pairwise_singleton _ _
  | x :: u, p, h => by
    obtain ⟨h1, h2⟩ := List.pairwise_cons.mp h
    unfold insK
    split
    · rename_i c
      exact List.pairwise_cons.mpr ⟨fun y m => by
        rcases List.mem_cons.mp m with rfl | m
        · exact c
        · have := h1 y m; omega, h⟩
    · rename_i c
      exact List.pairwise_cons.mpr ⟨fun y m => by
        rcases List.mem_cons.mp ((insK_perm u p).mem_iff.mp m) with rfl | m
        · omega
        · exact h1 y m, insK_pw h2⟩
theorem ins_insK {u : List Int} (hu : u.Pairwise (· ≤ ·)) (p : Int) : ins u p = insK u p := by
  have so : (ins u p).Pairwise fun a b => decide (a ≤ b) = true := List.pairwise_mergeSort (fun a b c h1 h2 => by
    simp only [decide_eq_true_eq] at *
    omega) (fun a b => by
    simp only [Bool.or_eq_true, decide_eq_true_eq]
    omega) _
  exact List.Perm.eq_of_pairwise (le := fun a b : Int => a ≤ b) (fun a b _ _ h1 h2 => Int.le_antisymm h1 h2) (so.imp fun h => of_decide_eq_true h) (insK_pw hu) ((perm_ins u p).trans (insK_perm u p).symm)
def nxK (h : List (List Nat)) (u : List Int) (r : List Nat) (i : Nat) : Option NX :=
  if r ≠ [] ∧ (i : Int) ∉ u then (lo r (shr h i)).map fun l => ((i : Int), insK u i, l) else none
def wysK (h : List (List Nat)) : Nat → List Int → List Nat → Nat
  | 0, u, r => if isE h u r then 1 else 0
  | k + 1, u, r => (if isE h u r then 1 else 0) + (((List.range h.length).filterMap (nxK h u r)).map fun x => wysK h k x.2.1 x.2.2).sum
theorem nexts_K {u : List Int} {r : List Nat} (hu : u.Pairwise (· ≤ ·)) : nexts h u r = (List.range h.length).filterMap (nxK h u r) := by
  unfold nexts
  congr 1
  funext i
  unfold nx1 nxK
  rw [ins_insK hu]
theorem waysF_K : ∀ (n : Nat) {u : List Int} {r : List Nat}, u.Pairwise (· ≤ ·) → waysF h n u r = wysK h n u r
  | 0, u, r, _ => rfl
  | n + 1, u, r, hu => by
    unfold waysF wysK
    rw [nexts_K hu]
    congr 2
    refine List.map_congr_left fun x m => ?_
    refine waysF_K n ?_
    rw [← nexts_K hu] at m
    rw [(mem_nexts.mp m).2.2.2.2.1, ins_insK hu]
    exact insK_pw hu
def manyK (h : List (List Nat)) : Nat := ((List.range h.length).map fun (i : Nat) => wysK h (h.length - 1) [(i : Int)] (shr h i)).sum
theorem manyW_K : manyW h = manyK h := by
  unfold manyW manyK begins
  rw [List.map_map]
  congr 1
  refine List.map_congr_left fun i _ => ?_
  exact waysF_K _ (List.pairwise_singleton _ _)
theorem reck1 : manyW [[97, 98], [97, 98]] = 2 := by rw [manyW_K]; decide +kernel
theorem reck2 : manyW [[97], [97], [98], [98]] = 0 := by rw [manyW_K]; decide +kernel
theorem reck3 : manyW [[97], [97, 98], [98, 99], [99]] = 2 := by rw [manyW_K]; decide +kernel
end
end Tt

/-! Shreds left out. -/
namespace Tt
def wout (h : List (List Nat)) (z : List Int) : List (List Nat) := (rst h.length z).map (shr h)
def goodB (h : List (List Nat)) (z : List Int) : Bool := decide (2 ≤ (wout h z).length) && decide (manyW (wout h z) ≠ 0)
def chF : Nat → List Int → List (List Int)
  | 0, _ => [[]]
  | m + 1, l => (List.range l.length).flatMap fun i => (chF m (l.drop (i + 1))).map (l.getD i 0 :: ·)
def allCh (n : Nat) : List (List Int) := (List.range (n + 1)).flatMap fun m => chF m (rngI n)
def allCh' (n : Nat) : List (List Int) := (List.range (n - 1)).flatMap fun m => chF m (rngI n)
def lotU : Nat → List (List Int)
  | 0 => [[]]
  | k + 1 => lotU k ++ (lotU k).map (· ++ [(k : Int)])
def sl (a b : List Int) : Prop := a.length < b.length ∨ (a.length = b.length ∧ a ≤ b)
instance (a b : List Int) : Decidable (sl a b) := inferInstanceAs (Decidable (_ ∨ _))
theorem lots_pw : ∀ n, n ≤ 8 → (allCh n).Pairwise sl := by decide +kernel
theorem lots_perm : ∀ n, n ≤ 8 → (lotU n).Perm (allCh n) := by decide +kernel
theorem lotU_len : ∀ k, (lotU k).length = 2 ^ k
  | 0 => rfl
  | k + 1 => by rw [lotU, List.length_append, List.length_map, lotU_len k, Nat.pow_succ]; omega
theorem lotU_each : ∀ (k : Nat) (l : List Int), l ∈ lotU k → l.length ≤ k
  | 0, l, m => by rw [List.mem_singleton.mp m]; exact Nat.le_refl _
  | k + 1, l, m => by
    rcases List.mem_append.mp m with m | m
    · have := lotU_each k l m; omega
    · obtain ⟨l', m', rfl⟩ := List.mem_map.mp m
      have := lotU_each k l' m'
      rw [List.length_append, List.length_singleton]
      omega
theorem mem_chF : ∀ {m : Nat} {l z : List Int}, l.Pairwise (· < ·) → z ∈ chF m l → z.length = m ∧ z.Pairwise (· < ·) ∧ ∀ x ∈ z, x ∈ l
  | 0, l, z, _, m => by
    rw [List.mem_singleton.mp m]
    exact ⟨rfl, List.Pairwise.nil, fun x mx => absurd mx List.not_mem_nil⟩
  | m + 1, l, z, pl, mz => by
    unfold chF at mz
    obtain ⟨i, mi, mz⟩ := List.mem_flatMap.mp mz
    obtain ⟨z', mz', rfl⟩ := List.mem_map.mp mz
    have hi := List.mem_range.mp mi
    have pd : (l.drop (i + 1)).Pairwise (· < ·) := pl.sublist (List.drop_sublist _ _)
    obtain ⟨k1, k2, k3⟩ := mem_chF pd mz'
    have eg : l.getD i 0 = l[i] := by rw [List.getD_eq_getElem?_getD, List.getElem?_eq_getElem hi]; rfl
    rw [eg]
    refine ⟨by rw [List.length_cons, k1], List.pairwise_cons.mpr ⟨fun y my => ?_, k2⟩, fun x mx => ?_⟩
    · obtain ⟨j, hj, e⟩ := List.getElem_of_mem (k3 y my)
      rw [List.getElem_drop] at e
      rw [List.length_drop] at hj
      rw [← e]
      exact List.pairwise_iff_getElem.mp pl i (i + 1 + j) hi (by omega) (by omega)
    · rcases List.mem_cons.mp mx with rfl | mx
      · exact List.getElem_mem hi
      · exact List.mem_of_mem_drop (k3 x mx)
theorem chF_mem : ∀ {z l : List Int}, l.Pairwise (· < ·) → z.Pairwise (· < ·) → (∀ x ∈ z, x ∈ l) → z ∈ chF z.length l
  | [], l, _, _, _ => List.mem_singleton.mpr rfl
  | x :: z, l, pl, pz, h => by
    obtain ⟨i, hi, e⟩ := List.getElem_of_mem (h x List.mem_cons_self)
    obtain ⟨p1, p2⟩ := List.pairwise_cons.mp pz
    rw [List.length_cons]
    unfold chF
    refine List.mem_flatMap.mpr ⟨i, List.mem_range.mpr hi, List.mem_map.mpr ⟨z, chF_mem (pl.sublist (List.drop_sublist _ _)) p2 fun y my => ?_, ?_⟩⟩
    · obtain ⟨j, hj, ej⟩ := List.getElem_of_mem (h y (List.mem_cons_of_mem _ my))
      have hxy := p1 y my
      have hij : i < j := by
        rcases Nat.lt_or_ge i j with c | c
        · exact c
        · exfalso
          rcases Nat.eq_or_lt_of_le c with c | c
          · subst c
            rw [e] at ej
            omega
          · have := List.pairwise_iff_getElem.mp pl j i hj hi c
            omega
      rw [← ej]
      refine List.mem_iff_getElem.mpr ⟨j - (i + 1), by rw [List.length_drop]; omega, ?_⟩
      rw [List.getElem_drop]
      congr 1
      omega
    · rw [List.getD_eq_getElem?_getD, List.getElem?_eq_getElem hi]
      simp [e]
theorem mem_allCh {n : Nat} {z : List Int} : z ∈ allCh n ↔ z.Pairwise (· < ·) ∧ ∀ x ∈ z, 0 ≤ x ∧ x < n := by
  unfold allCh
  rw [List.mem_flatMap]
  constructor
  · rintro ⟨m, _, mz⟩
    obtain ⟨_, k2, k3⟩ := mem_chF (rngI_lt n) mz
    exact ⟨k2, fun x mx => mem_rngI.mp (k3 x mx)⟩
  · rintro ⟨pw, b⟩
    have hs : ∀ x ∈ z, x ∈ rngI n := fun x mx => mem_rngI.mpr (b x mx)
    have := nodup_le z (rngI n) (pw.imp fun h => Int.ne_of_lt h) hs
    rw [rngI_len] at this
    exact ⟨z.length, List.mem_range.mpr (by omega), chF_mem (rngI_lt n) pw hs⟩
section
variable {h : List (List Nat)}
theorem wout_len {z : List Int} (pw : z.Pairwise (· < ·)) (b : ∀ x ∈ z, 0 ≤ x ∧ x < h.length) : (wout h z).length + z.length = h.length := by
  unfold wout
  rw [List.length_map]
  have nd : z.Nodup := pw.imp fun h => Int.ne_of_lt h
  have p : (rst h.length z ++ z).Perm (rngI h.length) := by
    refine perm_of_mem ?_ (rngI_nodup _) fun x => ?_
    · rw [List.nodup_append]
      exact ⟨rst_nodup _ _, nd, fun a ha c hc e => (rst_mem.mp ha).2 (e ▸ hc)⟩
    · rw [List.mem_append, rst_mem, mem_rngI]
      constructor
      · rintro (m | m)
        · exact m.1
        · exact b x m
      · intro m
        by_cases c : x ∈ z
        · exact .inr c
        · exact .inl ⟨m, c⟩
  have := p.length_eq
  rw [List.length_append, rngI_len] at this
  exact this
theorem wout_sub (z : List Int) : (wout h z).Sublist h := by
  have e : h = (rngI h.length).map (shr h) := by
    have := map_rngI (h := h) id
    simp only [id_eq, List.map_id'] at this
    simpa using this.symm
  unfold wout rst
  exact (List.filter_sublist.map (shr h)).trans (by rw [← e]; exact List.Sublist.refl _)
theorem hv_wout (v : Hv h) {z : List Int} (l : 2 ≤ (wout h z).length) : Hv (wout h z) := by
  have s := wout_sub (h := h) z
  have := s.length_le
  have := v.hi
  exact ⟨l, by omega, fun x m => v.each x (s.subset m), v.so.sublist s⟩
theorem wout_nil : wout h [] = h := by
  unfold wout rst
  have : (rngI h.length).filter (fun x => !decide (x ∈ ([] : List Int))) = rngI h.length := List.filter_eq_self.mpr fun _ _ => by simp
  rw [this]
  have := map_rngI (h := h) id
  simpa using this
def strF (h : List (List Nat)) : Option (List Int) := (allCh' h.length).find? (goodB h)
theorem allCh_split {n : Nat} (hn : 2 ≤ n) : allCh n = allCh' n ++ (chF (n - 1) (rngI n) ++ chF n (rngI n)) := by
  unfold allCh allCh'
  have e : n + 1 = (n - 1) + 1 + 1 := by omega
  rw [e, List.range_succ, List.range_succ, List.flatMap_append, List.flatMap_append]
  have e2 : n - 1 + 1 = n := by omega
  simp [e2]
theorem good_head (h2 : 2 ≤ h.length) : ((allCh h.length).filter (goodB h)).head? = strF h := by
  rw [List.head?_filter, allCh_split h2, List.find?_append]
  unfold strF
  have nog : ∀ m, h.length - 1 ≤ m → ∀ z ∈ chF m (rngI h.length), goodB h z = false := fun m hm z mz => by
    obtain ⟨k1, k2, k3⟩ := mem_chF (rngI_lt _) mz
    have := wout_len k2 fun x mx => mem_rngI.mp (k3 x mx)
    unfold goodB
    rw [decide_eq_false (by omega), Bool.false_and]
  have e : (chF (h.length - 1) (rngI h.length) ++ chF h.length (rngI h.length)).find? (goodB h) = none := by
    rw [List.find?_eq_none]
    intro z mz
    rcases List.mem_append.mp mz with mz | mz
    · rw [nog _ (Nat.le_refl _) z mz]; exact Bool.false_ne_true
    · rw [nog _ (by omega) z mz]; exact Bool.false_ne_true
  rw [e]
  simp
theorem strF_mem {z : List Int} (e : strF h = some z) : goodB h z = true ∧ z.Pairwise (· < ·) ∧ (∀ x ∈ z, 0 ≤ x ∧ x < h.length) := by
  unfold strF at e
  have m := List.mem_of_find?_eq_some e
  unfold allCh' at m
  obtain ⟨k, _, mz⟩ := List.mem_flatMap.mp m
  obtain ⟨_, k2, k3⟩ := mem_chF (rngI_lt _) mz
  exact ⟨List.find?_some e, k2, fun x mx => mem_rngI.mp (k3 x mx)⟩
theorem strF_le (h8 : h.length ≤ 8) (h2 : 2 ≤ h.length) {z : List Int} (m : z ∈ allCh h.length) (g : goodB h z = true) : ∃ z0, strF h = some z0 ∧ z0.length ≤ z.length := by
  have mz : z ∈ (allCh h.length).filter (goodB h) := List.mem_filter.mpr ⟨m, g⟩
  have pw : ((allCh h.length).filter (goodB h)).Pairwise sl := (lots_pw _ h8).sublist List.filter_sublist
  have e := good_head h2
  cases q : (allCh h.length).filter (goodB h) with
  | nil => rw [q] at mz; exact absurd mz List.not_mem_nil
  | cons z0 r =>
    rw [q] at mz e pw
    refine ⟨z0, e.symm, ?_⟩
    rcases List.mem_cons.mp mz with rfl | mz
    · exact Nat.le_refl _
    · rcases (List.pairwise_cons.mp pw).1 z mz with c | c <;> omega
theorem strF_nil (h2 : 2 ≤ h.length) : strF h = some [] ↔ manyW h ≠ 0 := by
  constructor
  · intro e
    have := (strF_mem e).1
    unfold goodB at this
    rw [wout_nil] at this
    simp only [Bool.and_eq_true, decide_eq_true_eq] at this
    exact this.2
  · intro e
    have g : goodB h [] = true := by
      unfold goodB
      rw [wout_nil]
      simp only [Bool.and_eq_true, decide_eq_true_eq]
      exact ⟨h2, e⟩
    unfold strF allCh'
    obtain ⟨m, hm⟩ : ∃ m, h.length - 1 = m + 1 := ⟨h.length - 2, by omega⟩
    rw [hm, List.range_succ_eq_map, List.flatMap_cons]
    show (([] : List Int) :: _).find? _ = _
    rw [List.find?_cons, g]
theorem texts_many (ne : ∀ s ∈ h, s ≠ []) : textsU h = [] ↔ manyW h = 0 := by
  constructor
  · intro e
    rw [manyW_eq]
    cases q : ordL h with
    | nil => rfl
    | cons L r =>
      have : joinT h L.1 ∈ textsU h := (mem_textsU ne).mpr ⟨L, by rw [q]; exact List.mem_cons_self, rfl⟩
      rw [e] at this
      exact absurd this List.not_mem_nil
  · exact texts_none ne
/-- shreds put in can be left out -/
theorem put_in {l e : List (List Nat)} (p : (l ++ e).Perm h) (v : Hv h) (l2 : 2 ≤ l.length) : ∃ z, z ∈ allCh h.length ∧ z.length = e.length ∧ (wout h z).Perm l ∧ 2 ≤ (wout h z).length := by
  obtain ⟨q, pq, mq⟩ := places_of _ p
  have hl : (q.take l.length).map (shr h) = l ∧ (q.drop l.length).map (shr h) = e := by
    rw [List.map_take, List.map_drop, mq]
    simp
  have nd : q.Nodup := pq.nodup_iff.mpr (rngI_nodup _)
  have qs : q = q.take l.length ++ q.drop l.length := (List.take_append_drop _ _).symm
  generalize q.take l.length = a at hl qs
  generalize q.drop l.length = b at hl qs
  subst qs
  obtain ⟨n1, n2, n3⟩ := List.nodup_append.mp nd
  have sp := List.mergeSort_perm b fun a b => decide (a ≤ b)
  have so : (b.mergeSort fun a b => decide (a ≤ b)).Pairwise fun a b => decide (a ≤ b) = true := List.pairwise_mergeSort (fun a b c h1 h2 => by
    simp only [decide_eq_true_eq] at *
    omega) (fun a b => by
    simp only [Bool.or_eq_true, decide_eq_true_eq]
    omega) _
  have nm : (b.mergeSort fun a b => decide (a ≤ b)).Nodup := sp.nodup_iff.mpr n2
  have pw : (b.mergeSort fun a b => decide (a ≤ b)).Pairwise (· < ·) := (so.and nm).imp fun {a b} ⟨h1, h2⟩ => by
    have := of_decide_eq_true h1
    omega
  have mem : ∀ x, x ∈ a ∨ x ∈ b ↔ 0 ≤ x ∧ x < h.length := fun x => by rw [← List.mem_append, pq.mem_iff, mem_rngI]
  have pa : (rst h.length (b.mergeSort fun a b => decide (a ≤ b))).Perm a := by
    refine perm_of_mem (rst_nodup _ _) n1 fun x => ?_
    rw [rst_mem, sp.mem_iff, ← mem x]
    constructor
    · rintro ⟨m | m, n⟩
      · exact m
      · exact absurd m n
    · intro m
      exact ⟨.inl m, fun m2 => n3 x m x m2 rfl⟩
  have pwo : (wout h (b.mergeSort fun a b => decide (a ≤ b))).Perm l := by
    unfold wout
    rw [← hl.1]
    exact pa.map _
  refine ⟨b.mergeSort fun a b => decide (a ≤ b), mem_allCh.mpr ⟨pw, fun x mx => (mem x).mp (.inr (sp.mem_iff.mp mx))⟩, ?_, pwo, by rw [pwo.length_eq]; exact l2⟩
  rw [sp.length_eq, ← hl.2, List.length_map]
end
end Tt

/-! all standings that come of beginnings -/
namespace Tt
abbrev ST := List Int × List Nat
section
variable {h : List (List Nat)}
def meR (h : List (List Nat)) (st : List ST) : Nat := (st.map fun e => tme (rm h e.1)).sum
theorem meR_app (a b : List ST) : meR h (a ++ b) = meR h a + meR h b := by simp [meR]
theorem meR_len (a : List ST) : a.length ≤ meR h a := by
  induction a with
  | nil => exact Nat.le_refl _
  | cons e a ih =>
    have := tme_pos (rm h e.1)
    have e2 : meR h (e :: a) = tme (rm h e.1) + meR h a := by simp [meR]
    rw [e2, List.length_cons]
    omega
def kidR (h : List (List Nat)) (e : ST) : List ST := (nexts h e.1 e.2).map (·.2)
theorem kidR_me {e : ST} (v : VS h e.1 e.2) : meR h (kidR h e) + 1 ≤ tme (rm h e.1) := by
  have h1 : ∀ xs : List NX, (∀ x ∈ xs, x ∈ nexts h e.1 e.2) → meR h (xs.map (·.2)) = xs.length * tme (rm h e.1 - 1) := by
    intro xs sub
    induction xs with
    | nil => simp [meR]
    | cons x xs ih =>
      have i := ih fun y m => sub y (List.mem_cons_of_mem _ m)
      have e2 := next_rm v.us (sub x List.mem_cons_self)
      have e3 : meR h ((x :: xs).map (·.2)) = tme (rm h x.2.1) + meR h (xs.map (·.2)) := by simp [meR]
      rw [e3, i, List.length_cons, Nat.succ_mul, show rm h x.2.1 = rm h e.1 - 1 by omega]
      omega
  have h1 := h1 _ fun x m => m
  have h2 := nexts_rm (r := e.2) v.us
  unfold kidR
  rw [h1]
  cases q : rm h e.1 with
  | zero =>
    rw [q] at h2
    have : (nexts h e.1 e.2).length = 0 := by omega
    rw [this, Nat.zero_mul]
    exact Nat.le_refl _
  | succ k =>
    rw [q] at h2
    have h3 := Nat.mul_le_mul_right (tme k) h2
    show _ ≤ 1 + (k + 1) * tme k
    rw [Nat.add_sub_cancel]
    omega
structure RcOk (h : List (List Nat)) (st F : List ST) : Prop where
  vs : ∀ e ∈ st ++ F, VS h e.1 e.2
  nd : F.Nodup
  bg : ∀ b ∈ begins h, b ∈ st ++ F
  cl : ∀ e ∈ F, ∀ x ∈ kidR h e, x ∈ st ++ F
  co : ∀ e ∈ st ++ F, can h e.1 e.2 = true → ∃ b ∈ begins h, can h b.1 b.2 = true
  me : meR h st ≤ 109600
theorem RcOk.start (sm : Small h) : RcOk h (begins h) [] := by
  refine ⟨fun e m => ?_, List.nodup_nil, fun b m => List.mem_append_left _ m, fun e m => absurd m List.not_mem_nil, fun e m c => ⟨e, ?_, c⟩, ?_⟩
  · rw [List.append_nil] at m; exact (begin_vs m).1
  · rwa [List.append_nil] at m
  · have : meR h (begins h) = h.length * tme (rm h [0]) := by
      unfold meR begins
      rw [List.map_map]
      have : ∀ l : List Nat, (l.map ((fun e : ST => tme (rm h e.1)) ∘ fun (i : Nat) => ([(i : Int)], shr h i))).sum = l.length * tme (rm h [0]) := by
        intro l
        induction l with
        | nil => simp
        | cons x l ih =>
          rw [List.map_cons, List.sum_cons, ih, List.length_cons, Nat.succ_mul]
          show tme (rm h [(x : Int)]) + _ = _
          unfold rm
          simp only [List.length_cons, List.length_nil]
          omega
      have t2 := this (List.range h.length)
      rw [List.length_range] at t2
      exact t2
    rw [this]
    unfold rm
    have := sm.len
    simp only [List.length_nil, List.length_cons, Nat.zero_add]
    generalize h.length = n at *
    have : n = 0 ∨ n = 1 ∨ n = 2 ∨ n = 3 ∨ n = 4 ∨ n = 5 ∨ n = 6 ∨ n = 7 ∨ n = 8 := by omega
    rcases this with rfl | rfl | rfl | rfl | rfl | rfl | rfl | rfl | rfl <;> decide
theorem kid_vs {e x : ST} (v : VS h e.1 e.2) (m : x ∈ kidR h e) : VS h x.1 x.2 := by
  obtain ⟨y, my, rfl⟩ := List.mem_map.mp m
  exact next_vs v my
theorem can_kid {e : ST} (v : VS h e.1 e.2) : can h e.1 e.2 = true ↔ isE h e.1 e.2 = true ∨ ∃ x ∈ kidR h e, can h x.1 x.2 = true := by
  rw [can_eq v.us, Bool.or_eq_true, List.any_eq_true]
  constructor
  · rintro (a | ⟨x, m, c⟩)
    · exact .inl a
    · exact .inr ⟨x.2, List.mem_map.mpr ⟨x, m, rfl⟩, c⟩
  · rintro (a | ⟨x, m, c⟩)
    · exact .inl a
    · obtain ⟨y, my, rfl⟩ := List.mem_map.mp m
      exact .inr ⟨y, my, c⟩
theorem RcOk.old {st F : List ST} {e : ST} (s : RcOk h (st ++ [e]) F) (m : e ∈ F) : RcOk h st F ∧ meR h st < meR h (st ++ [e]) := by
  have sw : ∀ x, x ∈ (st ++ [e]) ++ F → x ∈ st ++ F := fun x mx => by
    rcases List.mem_append.mp mx with mx | mx
    · rcases List.mem_append.mp mx with mx | mx
      · exact List.mem_append_left _ mx
      · rw [List.mem_singleton.mp mx]; exact List.mem_append_right _ m
    · exact List.mem_append_right _ mx
  have ws : ∀ x, x ∈ st ++ F → x ∈ (st ++ [e]) ++ F := fun x mx => by
    rcases List.mem_append.mp mx with mx | mx
    · exact List.mem_append_left _ (List.mem_append_left _ mx)
    · exact List.mem_append_right _ mx
  have m1 : meR h (st ++ [e]) = meR h st + tme (rm h e.1) := by rw [meR_app]; simp [meR]
  have := tme_pos (rm h e.1)
  have me := s.me
  exact ⟨⟨fun x mx => s.vs x (ws x mx), s.nd, fun b mb => sw b (s.bg b mb), fun x mx y my => sw y (s.cl x mx y my), fun x mx => s.co x (ws x mx), by omega⟩, by omega⟩
theorem RcOk.new {st F : List ST} {e : ST} (s : RcOk h (st ++ [e]) F) (m : e ∉ F) : RcOk h (st ++ kidR h e) (F ++ [e]) ∧ meR h (st ++ kidR h e) < meR h (st ++ [e]) := by
  have me0 : e ∈ (st ++ [e]) ++ F := List.mem_append_left _ (List.mem_append_right _ (List.mem_singleton.mpr rfl))
  have v := s.vs e me0
  have sw : ∀ x, x ∈ (st ++ [e]) ++ F → x ∈ (st ++ kidR h e) ++ (F ++ [e]) := fun x mx => by
    rcases List.mem_append.mp mx with mx | mx
    · rcases List.mem_append.mp mx with mx | mx
      · exact List.mem_append_left _ (List.mem_append_left _ mx)
      · exact List.mem_append_right _ (List.mem_append_right _ mx)
    · exact List.mem_append_right _ (List.mem_append_left _ mx)
  have ws : ∀ x, x ∈ (st ++ kidR h e) ++ (F ++ [e]) → x ∈ (st ++ [e]) ++ F ∨ x ∈ kidR h e := fun x mx => by
    rcases List.mem_append.mp mx with mx | mx
    · rcases List.mem_append.mp mx with mx | mx
      · exact .inl (List.mem_append_left _ (List.mem_append_left _ mx))
      · exact .inr mx
    · rcases List.mem_append.mp mx with mx | mx
      · exact .inl (List.mem_append_right _ mx)
      · rw [List.mem_singleton.mp mx]; exact .inl me0
  have m1 : meR h (st ++ [e]) = meR h st + tme (rm h e.1) := by rw [meR_app]; simp [meR]
  have m2 : meR h (st ++ kidR h e) = meR h st + meR h (kidR h e) := meR_app _ _
  have kl := kidR_me v
  have me := s.me
  refine ⟨⟨fun x mx => ?_, ?_, fun b mb => sw b (s.bg b mb), fun x mx y my => ?_, fun x mx c => ?_, by omega⟩, by omega⟩
  · rcases ws x mx with q | q
    · exact s.vs x q
    · exact kid_vs v q
  · rw [List.nodup_append]
    refine ⟨s.nd, List.pairwise_singleton _ _, fun x hx b hb q => m ?_⟩
    rw [← List.mem_singleton.mp hb, ← q]
    exact hx
  · rcases List.mem_append.mp mx with mx | mx
    · exact sw y (s.cl x mx y my)
    · rw [List.mem_singleton.mp mx] at my
      exact List.mem_append_left _ (List.mem_append_right _ my)
  · rcases ws x mx with q | q
    · exact s.co x q c
    · exact s.co e me0 ((can_kid v).mpr (.inr ⟨x, q, c⟩))
theorem RcOk.any {F : List ST} (s : RcOk h [] F) : (F.any fun e => isE h e.1 e.2) = ((begins h).map fun b => can h b.1 b.2).any id := by
  rw [Bool.eq_iff_iff, List.any_eq_true, List.any_map, List.any_eq_true]
  constructor
  · rintro ⟨e, m, c⟩
    exact s.co e m ((can_kid (s.vs e m)).mpr (.inl c))
  · rintro ⟨b, mb, c⟩
    have go : ∀ n, ∀ e : ST, e ∈ F → rm h e.1 = n → can h e.1 e.2 = true → ∃ x ∈ F, isE h x.1 x.2 = true := by
      intro n
      induction n with
      | zero =>
        intro e m r c
        rcases (can_kid (s.vs e m)).mp c with q | ⟨x, mx, _⟩
        · exact ⟨e, m, q⟩
        · obtain ⟨y, my, rfl⟩ := List.mem_map.mp mx
          have := next_rm (s.vs e m).us my
          omega
      | succ n ih =>
        intro e m r c
        rcases (can_kid (s.vs e m)).mp c with q | ⟨x, mx, cx⟩
        · exact ⟨e, m, q⟩
        · have mF := s.cl e m x mx
          obtain ⟨y, my, rfl⟩ := List.mem_map.mp mx
          have := next_rm (s.vs e m).us my
          exact ih y.2 mF (by omega) cx
    exact go _ b (s.bg b mb) rfl c
end
end Tt

/-! the standings that come of beginnings: how many of one size, level by level -/
namespace Tt
section
variable {h : List (List Nat)}
/-- comes of a beginning -/
inductive Come (h : List (List Nat)) : ST → Prop
  | bg {b : ST} : b ∈ begins h → Come h b
  | kid {e x : ST} : Come h e → x ∈ kidR h e → Come h x
theorem Come.vs (sm : Small h) {e : ST} (r : Come h e) : VS h e.1 e.2 := by
  induction r with
  | bg m => exact (begin_vs m).1
  | kid _ m ih => exact kid_vs ih m
/-- what is left is the end of a shred that is used -/
theorem Come.own {e : ST} (r : Come h e) : ∃ p ∈ e.1, ∃ k, e.2 = (shr h p).drop k := by
  induction r with
  | bg m =>
    unfold begins at m
    obtain ⟨i, _, rfl⟩ := List.mem_map.mp m
    exact ⟨(i : Int), List.mem_singleton.mpr rfl, 0, rfl⟩
  | @kid e x _ m ih =>
    unfold kidR at m
    obtain ⟨y, my, rfl⟩ := List.mem_map.mp m
    unfold nexts at my
    obtain ⟨i, _, hy⟩ := List.mem_filterMap.mp my
    unfold nx1 at hy
    split at hy
    · obtain ⟨l, hl, rfl⟩ := Option.map_eq_some_iff.mp hy
      have mem : ∀ q, q ∈ ins e.1 i ↔ q ∈ e.1 ∨ q = (i : Int) := fun q => by
        unfold ins
        rw [(List.mergeSort_perm _ _).mem_iff, List.mem_append, List.mem_singleton]
      obtain ⟨p, mp, k, ek⟩ := ih
      unfold lo at hl
      split at hl
      · cases hl
        exact ⟨p, (mem p).mpr (.inl mp), k + (shr h i).length, by show e.2.drop _ = _; rw [ek, List.drop_drop]⟩
      · split at hl
        · cases hl
          exact ⟨(i : Int), (mem _).mpr (.inr rfl), e.2.length, rfl⟩
        · cases hl
    · cases hy
theorem kid_len (e x : ST) (v : VS h e.1 e.2) (m : x ∈ kidR h e) : x.1.length = e.1.length + 1 := by
  unfold kidR at m
  obtain ⟨y, my, rfl⟩ := List.mem_map.mp m
  have := next_rm v.us my
  unfold nexts at my
  obtain ⟨i, _, hy⟩ := List.mem_filterMap.mp my
  unfold nx1 at hy
  split at hy
  · obtain ⟨l, hl, rfl⟩ := Option.map_eq_some_iff.mp hy
    show (ins e.1 i).length = _
    unfold ins
    rw [(List.mergeSort_perm _ _).length_eq, List.length_append]
    rfl
  · cases hy
theorem subs_few : ((List.range 9).all fun n => (List.range 10).all fun c => decide (((subs (rngI n)).filter fun u => decide (u.length = c)).length * c ≤ 280)) = true := by decide +kernel
def sameS (h : List (List Nat)) (c : Nat) : List ST := ((subs (rngI h.length)).filter fun u => decide (u.length = c)).flatMap fun u => u.flatMap fun p => (List.range 12).map fun k => (u, (shr h p).drop k)
theorem flatC_len {α β : Type} (f : α → List β) (n : Nat) : ∀ l : List α, (∀ x ∈ l, (f x).length = n) → (l.flatMap f).length = l.length * n
  | [], _ => by simp
  | x :: l, hx => by
    rw [List.flatMap_cons, List.length_append, hx x List.mem_cons_self, flatC_len f n l fun y m => hx y (List.mem_cons_of_mem _ m), List.length_cons, Nat.succ_mul]
    omega
theorem sameS_len (sm : Small h) {c : Nat} (hc : c ≤ 9) : (sameS h c).length ≤ 3360 := by
  unfold sameS
  rw [flatC_len _ (c * 12)]
  · have h1 := List.all_eq_true.mp subs_few h.length (List.mem_range.mpr (by have := sm.len; omega))
    have h2 := of_decide_eq_true (List.all_eq_true.mp h1 c (List.mem_range.mpr (by omega)))
    rw [← Nat.mul_assoc]
    omega
  · intro u m
    have := of_decide_eq_true (List.mem_filter.mp m).2
    rw [flatC_len _ 12, this]
    intro p _
    rw [List.length_map, List.length_range]
theorem mem_sameS (sm : Small h) {e : ST} (r : Come h e) : e ∈ sameS h e.1.length := by
  unfold sameS
  have v := r.vs sm
  rw [List.mem_flatMap]
  refine ⟨e.1, List.mem_filter.mpr ⟨mem_subs (rngI_lt _) v.us.lt fun x m => mem_rngI.mpr (v.us.ok x m), by simp⟩, ?_⟩
  obtain ⟨p, mp, k, ek⟩ := r.own
  rw [List.mem_flatMap]
  refine ⟨p, mp, List.mem_map.mpr ?_⟩
  have hl := shr_le sm p
  by_cases hk : k < 12
  · exact ⟨k, List.mem_range.mpr hk, Prod.ext rfl ek.symm⟩
  · refine ⟨11, List.mem_range.mpr (by omega), Prod.ext rfl ?_⟩
    show (shr h p).drop 11 = e.2
    rw [ek, List.drop_eq_nil_of_le (by omega), List.drop_eq_nil_of_le (by omega)]
theorem level_few (sm : Small h) {F : List ST} {c : Nat} (n : F.Nodup) (r : ∀ e ∈ F, Come h e ∧ e.1.length = c) : F.length ≤ 3360 := by
  cases F with
  | nil => simp
  | cons e F =>
    have hc : c ≤ 9 := by
      obtain ⟨r0, e0⟩ := r e List.mem_cons_self
      have := us_len (r0.vs sm).us
      have := sm.len
      omega
    refine Nat.le_trans (nodup_le _ (sameS h c) n fun x m => ?_) (sameS_len sm hc)
    obtain ⟨r1, e1⟩ := r x m
    have := mem_sameS sm r1
    rwa [e1] at this
/-- the search level by level -/
structure LvOk (h : List (List Nat)) (lv Fo : List ST) (c : Nat) : Prop where
  ra : ∀ e ∈ Fo ++ lv, Come h e
  nd : (Fo ++ lv).Nodup
  bg : ∀ b ∈ begins h, b ∈ Fo ++ lv
  cl : ∀ e ∈ Fo, ∀ x ∈ kidR h e, x ∈ Fo ++ lv
  ln : ∀ e ∈ lv, e.1.length = c
theorem begins_nodup : (begins h).Nodup := by
  unfold begins
  refine List.pairwise_map.mpr (List.Pairwise.imp (fun {a b} ne e => ne ?_) List.nodup_range)
  have t : [(a : Int)] = [(b : Int)] := congrArg Prod.fst e
  injection t with t
  omega
theorem LvOk.start : LvOk h (begins h) [] 1 := ⟨fun e m => .bg (by simpa using m), by simpa using begins_nodup, fun b m => by simpa using m, fun e m => absurd m List.not_mem_nil, fun e m => by
  unfold begins at m
  obtain ⟨i, _, rfl⟩ := List.mem_map.mp m
  rfl⟩
theorem LvOk.next (sm : Small h) {lv Fo lv' : List ST} {c : Nat} (L : LvOk h lv Fo c) (n : lv'.Nodup) (m : ∀ x, x ∈ lv' ↔ ∃ e ∈ lv, x ∈ kidR h e ∧ x ∉ Fo ++ lv) : LvOk h lv' (Fo ++ lv) (c + 1) := by
  refine ⟨fun e me => ?_, ?_, fun b mb => List.mem_append_left _ (L.bg b mb), fun e me x mx => ?_, fun x mx => ?_⟩
  · rcases List.mem_append.mp me with me | me
    · exact L.ra e me
    · obtain ⟨y, my, k, _⟩ := (m e).mp me
      exact .kid (L.ra y (List.mem_append_right _ my)) k
  · rw [List.nodup_append]
    refine ⟨L.nd, n, fun a ha b hb e => ?_⟩
    subst e
    obtain ⟨_, _, _, no⟩ := (m a).mp hb
    exact no ha
  · rcases List.mem_append.mp me with me | me
    · exact List.mem_append_left _ (L.cl e me x mx)
    · by_cases hx : x ∈ Fo ++ lv
      · exact List.mem_append_left _ hx
      · exact List.mem_append_right _ ((m x).mpr ⟨e, me, mx, hx⟩)
  · obtain ⟨e, me, k, _⟩ := (m x).mp mx
    rw [kid_len e x ((L.ra e (List.mem_append_right _ me)).vs sm) k, L.ln e me]
theorem LvOk.done {Fo : List ST} {c : Nat} (L : LvOk h [] Fo c) : Fo.Nodup ∧ ∀ e, e ∈ Fo ↔ Come h e := by
  have nd := L.nd
  have ra := L.ra
  have bg := L.bg
  have cl := L.cl
  rw [List.append_nil] at nd ra bg cl
  refine ⟨nd, fun e => ⟨ra e, fun r => ?_⟩⟩
  induction r with
  | bg m => exact bg _ m
  | kid _ m ih => exact cl _ ih _ m
theorem LvOk.len (sm : Small h) {lv Fo : List ST} {c : Nat} (L : LvOk h lv Fo c) : (Fo ++ lv).length ≤ 60000 := Nat.le_trans (nodup_le _ (allS h) L.nd fun e m => mem_allS sm ((L.ra e m).vs sm)) (allS_len sm)
theorem LvOk.le (sm : Small h) {lv Fo : List ST} {c : Nat} (L : LvOk h lv Fo c) (ne : lv ≠ []) : c ≤ 8 := by
  obtain ⟨e, me⟩ := List.exists_mem_of_ne_nil _ ne
  have := us_len ((L.ra e (List.mem_append_right _ me)).vs sm).us
  have := L.ln e me
  have := sm.len
  omega
/-- the level that follows -/
theorem LvOk.few (sm : Small h) {lv Fo l : List ST} {c : Nat} (L : LvOk h lv Fo c) (n : l.Nodup) (m : ∀ x ∈ l, ∃ e ∈ lv, x ∈ kidR h e) : l.length ≤ 3360 :=
  level_few (c := c + 1) sm n fun x mx => by
    obtain ⟨e, me, k⟩ := m x mx
    have r := L.ra e (List.mem_append_right _ me)
    exact ⟨.kid r k, by rw [kid_len e x (r.vs sm) k, L.ln e me]⟩
theorem same_perm {l m : List ST} (n1 : l.Nodup) (n2 : m.Nodup) (e : ∀ x, x ∈ l ↔ x ∈ m) : l.Perm m := (List.perm_ext_iff_of_nodup n1 n2).mpr e
end
end Tt

namespace Tt
open PySem PySem.Spec PyProof.Rows L2
/-! ### the text by places -/
def topS (i : Nat) : Stmt := PySem.Challenge.pw_twintorn_k03_standings_by_hand.main.body.getD i (.Pass ⟨0, 0, 0, 0⟩)
abbrev s_is_whole : Stmt := topS 11
abbrev N_is_whole : List Str := ["thing", "low", "high"]
theorem sc_is_whole : FnScope N_is_whole ["thing", "low", "high"] (defScope s_is_whole) := ⟨rfl, rfl, rfl, by decide +kernel, rfl, by decide +kernel, by decide +kernel⟩
abbrev s_are_signs : Stmt := topS 12
abbrev N_are_signs : List Str := ["thing", "least", "sign"]
theorem sc_are_signs : FnScope N_are_signs ["thing", "least"] (defScope s_are_signs) := ⟨rfl, rfl, rfl, by decide +kernel, rfl, by decide +kernel, by decide +kernel⟩
abbrev s_are_shreds : Stmt := topS 13
abbrev N_are_shreds : List Str := ["thing", "least", "shred", "k"]
theorem sc_are_shreds : FnScope N_are_shreds ["thing", "least"] (defScope s_are_shreds) := ⟨rfl, rfl, rfl, by decide +kernel, rfl, by decide +kernel, by decide +kernel⟩
abbrev s_is_heap : Stmt := topS 14
abbrev N_is_heap : List Str := ["thing"]
theorem sc_is_heap : FnScope N_is_heap ["thing"] (defScope s_is_heap) := ⟨rfl, rfl, rfl, by decide +kernel, rfl, by decide +kernel, by decide +kernel⟩
abbrev s_need_heap : Stmt := topS 15
abbrev N_need_heap : List Str := ["heap"]
theorem sc_need_heap : FnScope N_need_heap ["heap"] (defScope s_need_heap) := ⟨rfl, rfl, rfl, by decide +kernel, rfl, by decide +kernel, by decide +kernel⟩
abbrev s_are_places : Stmt := topS 16
abbrev N_are_places : List Str := ["heap", "thing", "place"]
theorem sc_are_places : FnScope N_are_places ["heap", "thing"] (defScope s_are_places) := ⟨rfl, rfl, rfl, by decide +kernel, rfl, by decide +kernel, by decide +kernel⟩
abbrev s_all_beginnings : Stmt := topS 18
abbrev N_all_beginnings : List Str := ["heap", "place", "shred"]
theorem sc_all_beginnings : FnScope N_all_beginnings ["heap"] (defScope s_all_beginnings) := ⟨rfl, rfl, rfl, by decide +kernel, rfl, by decide +kernel, by decide +kernel⟩
abbrev s_left_over : Stmt := topS 19
abbrev N_left_over : List Str := ["rest", "shred"]
theorem sc_left_over : FnScope N_left_over ["rest", "shred"] (defScope s_left_over) := ⟨rfl, rfl, rfl, by decide +kernel, rfl, by decide +kernel, by decide +kernel⟩
abbrev s_next_to : Stmt := topS 20
abbrev N_next_to : List Str := ["heap", "standing", "used", "rest", "found", "place", "shred", "left"]
theorem sc_next_to : FnScope N_next_to ["heap", "standing"] (defScope s_next_to) := ⟨rfl, rfl, rfl, by decide +kernel, rfl, by decide +kernel, by decide +kernel⟩
abbrev s_is_standing : Stmt := topS 21
abbrev N_is_standing : List Str := ["heap", "thing", "used", "k"]
theorem sc_is_standing : FnScope N_is_standing ["heap", "thing"] (defScope s_is_standing) := ⟨rfl, rfl, rfl, by decide +kernel, rfl, by decide +kernel, by decide +kernel⟩
abbrev s_beginnings : Stmt := topS 22
abbrev N_beginnings : List Str := ["heap"]
theorem sc_beginnings : FnScope N_beginnings ["heap"] (defScope s_beginnings) := ⟨rfl, rfl, rfl, by decide +kernel, rfl, by decide +kernel, by decide +kernel⟩
abbrev s_leads : Stmt := topS 23
abbrev N_leads : List Str := ["heap", "standing", "place", "there"]
theorem sc_leads : FnScope N_leads ["heap", "standing"] (defScope s_leads) := ⟨rfl, rfl, rfl, by decide +kernel, rfl, by decide +kernel, by decide +kernel⟩
abbrev s_law_well : Stmt := topS 25
abbrev N_law_well : List Str := ["script", "k", "cell", "primes", "seed"]
theorem sc_law_well : FnScope N_law_well ["script", "k"] (defScope s_law_well) := ⟨rfl, rfl, rfl, by decide +kernel, rfl, by decide +kernel, by decide +kernel⟩
abbrev s_law_take : Stmt := topS 26
abbrev N_law_take : List Str := ["well", "many", "drew"]
theorem sc_law_take : FnScope N_law_take ["well", "many"] (defScope s_law_take) := ⟨rfl, rfl, rfl, by decide +kernel, rfl, by decide +kernel, by decide +kernel⟩
abbrev s_law_is_int : Stmt := topS 27
abbrev N_law_is_int : List Str := ["thing", "low", "high"]
theorem sc_law_is_int : FnScope N_law_is_int ["thing", "low", "high"] (defScope s_law_is_int) := ⟨rfl, rfl, rfl, by decide +kernel, rfl, by decide +kernel, by decide +kernel⟩
abbrev s_law_thing : Stmt := topS 28
abbrev N_law_thing : List Str := ["well", "deep", "way", "some", "parts", "k"]
theorem sc_law_thing : FnScope N_law_thing ["well", "deep"] (defScope s_law_thing) := ⟨rfl, rfl, rfl, by decide +kernel, rfl, by decide +kernel, by decide +kernel⟩
abbrev s_law_otherwise : Stmt := topS 29
abbrev N_law_otherwise : List Str := ["well", "thing", "deep", "parts", "at", "way", "near"]
theorem sc_law_otherwise : FnScope N_law_otherwise ["well", "thing", "deep"] (defScope s_law_otherwise) := ⟨rfl, rfl, rfl, by decide +kernel, rfl, by decide +kernel, by decide +kernel⟩
abbrev s_law_kinds : Stmt := topS 30
abbrev N_law_kinds : List Str := ["e", "some", "words", "word", "good"]
theorem sc_law_kinds : FnScope N_law_kinds ["e"] (defScope s_law_kinds) := ⟨rfl, rfl, rfl, by decide +kernel, rfl, by decide +kernel, by decide +kernel⟩
abbrev s_law_refusal : Stmt := topS 31
abbrev N_law_refusal : List Str := ["e", "kinds"]
theorem sc_law_refusal : FnScope N_law_refusal ["e"] (defScope s_law_refusal) := ⟨rfl, rfl, rfl, by decide +kernel, rfl, by decide +kernel, by decide +kernel⟩
abbrev s_law_signs : Stmt := topS 32
abbrev N_law_signs : List Str := ["well", "many", "kinds", "turn"]
theorem sc_law_signs : FnScope N_law_signs ["well", "many", "kinds"] (defScope s_law_signs) := ⟨rfl, rfl, rfl, by decide +kernel, rfl, by decide +kernel, by decide +kernel⟩
abbrev s_law_cut : Stmt := topS 33
abbrev N_law_cut : List Str := ["text", "spots", "ends", "one", "other"]
theorem sc_law_cut : FnScope N_law_cut ["text", "spots"] (defScope s_law_cut) := ⟨rfl, rfl, rfl, by decide +kernel, rfl, by decide +kernel, by decide +kernel⟩
abbrev s_law_twins : Stmt := topS 34
abbrev N_law_twins : List Str := ["well", "top", "many", "text", "spots", "turn", "spot", "which"]
theorem sc_law_twins : FnScope N_law_twins ["well", "top"] (defScope s_law_twins) := ⟨rfl, rfl, rfl, by decide +kernel, rfl, by decide +kernel, by decide +kernel⟩
abbrev s_law_heap : Stmt := topS 35
abbrev N_law_heap : List Str := ["well", "top", "way", "kinds", "many", "text", "one", "other", "rows", "at", "turn"]
theorem sc_law_heap : FnScope N_law_heap ["well", "top"] (defScope s_law_heap) := ⟨rfl, rfl, rfl, by decide +kernel, rfl, by decide +kernel, by decide +kernel⟩
abbrev s_law_next : Stmt := topS 36
abbrev N_law_next : List Str := ["heap", "standing", "used", "rest", "found", "place", "shred", "many"]
theorem sc_law_next : FnScope N_law_next ["heap", "standing"] (defScope s_law_next) := ⟨rfl, rfl, rfl, by decide +kernel, rfl, by decide +kernel, by decide +kernel⟩
abbrev s_law_come : Stmt := topS 37
abbrev N_law_come : List Str := ["heap", "found", "level", "following", "standing", "place", "shred", "there"]
theorem sc_law_come : FnScope N_law_come ["heap"] (defScope s_law_come) := ⟨rfl, rfl, rfl, by decide +kernel, rfl, by decide +kernel, by decide +kernel⟩
abbrev s_law_is_standing : Stmt := topS 38
abbrev N_law_is_standing : List Str := ["heap", "thing", "place", "sign"]
theorem sc_law_is_standing : FnScope N_law_is_standing ["heap", "thing"] (defScope s_law_is_standing) := ⟨rfl, rfl, rfl, by decide +kernel, rfl, by decide +kernel, by decide +kernel⟩
abbrev s_law_asked : Stmt := topS 39
abbrev N_law_asked : List Str := ["heap", "thing", "e"]
theorem sc_law_asked : FnScope N_law_asked ["heap", "thing"] (defScope s_law_asked) := ⟨rfl, rfl, rfl, by decide +kernel, rfl, by decide +kernel, by decide +kernel⟩
abbrev s_law : Stmt := topS 40
abbrev N_law : List Str := ["script", "k", "well", "heap", "told", "come", "some", "used", "rest", "thing", "due", "found", "place", "shred", "turn"]
theorem sc_law : FnScope N_law ["script"] (defScope s_law) := ⟨rfl, rfl, rfl, by decide +kernel, rfl, by decide +kernel, by decide +kernel⟩
local macro_rules | `(tactic| walk_at "e") => `(tactic| first
  | refine em_int ?_ | refine em_str ?_ | refine em_bool ?_ | refine em_none ?_
  | refine em_var 0 rfl ?_ | refine em_var 1 rfl ?_ | refine em_var 2 rfl ?_ | refine em_var 3 rfl ?_ | refine em_var 4 rfl ?_ | refine em_var 5 rfl ?_ | refine em_var 6 rfl ?_ | refine em_var 7 rfl ?_ | refine em_var 8 rfl ?_ | refine em_var 9 rfl ?_ | refine em_var 10 rfl ?_ | refine em_var 11 rfl ?_ | refine em_var 12 rfl ?_ | refine em_var 13 rfl ?_ | refine em_var 14 rfl ?_ | refine em_var 15 rfl ?_ | refine em_var 16 rfl ?_
  | refine em_bin ?_ | refine em_un ?_ | refine em_cmp (nomark _) ?_ | refine em_cmp rfl ?_
  | refine tm_cmp (nomark _) ?_ | refine tm_cmp rfl ?_ | refine tm_not ?_
  | refine em_not ?_ | refine em_ite ?_
  | refine em_tup ?_ | refine em_lst ?_ | refine am_nil ?_ | refine am_cons ?_
  | refine em_ix (fun _ _ => rfl) ?_ | refine em_sl ?_ | refine om_none ?_ | refine om_some ?_
  | refine em_callB (‹Bare _›).len PySem.boot_len ?_ | refine em_callB (‹Bare _›).all_ boot_all ?_ | refine em_callB (‹Bare _›).any_ boot_any ?_ | refine em_callB (‹Bare _›).sum_ boot_sum ?_
  | refine em_callTy (‹Bare _›).list_ PyProof.Rows.boot_list ?_ | refine em_callTy (‹Bare _›).tuple_ PyProof.Rows.boot_tuple ?_
  | refine fd_add_int ?_ | refine fd_sub_int ?_ | refine fd_lt ?_ | refine fd_le ?_ | refine fd_gt ?_ | refine fd_ge ?_ | refine fd_eq_int ?_ | refine fd_ne_int ?_ | refine fd_eq_str ?_ | refine fd_ne_str ?_ | refine fd_eq_bool ?_ | refine fd_ne_bool ?_ | refine fd_is_none ?_ | refine fd_isnot_none ?_ | refine fd_le_str ?_
  | refine kd_len_list ?_ | refine kd_len_tuple ?_ | refine kd_list_list ?_ | refine kd_list_tuple ?_ | refine kd_tuple_list ?_ | refine kd_tuple_tuple ?_
  | refine ld_list ?_ | refine ld_tuple ?_ | refine gd_neg ?_
  | refine md_startswith ?_)
/-! ### heaps: what is one -/
def lettersS : Str := "abcdefghijklmnopqrstuvwxyz"
theorem letters_eq : lettersS = S lettersL := by decide +kernel
/-- what the module's constants are -/
structure Consts (mg : Str → Option Value) : Prop where
  letters : ∃ t, mg "LETTERS" = some (.str lettersS t)
  signs : ∃ t, mg "MOST_SIGNS" = some (.int 10 t)
  shreds : ∃ t, mg "MOST_SHREDS" = some (.int 8 t)
/-- sizes that fit -/
def tameStr (z : Str) : Bool := decide (z.length ≤ 1000000)
mutual
def tame : D → Bool
  | .str z => tameStr z
  | .list ds => decide (ds.length ≤ 1000000) && tameAll ds
  | .tuple ds => decide (ds.length ≤ 1000000) && tameAll ds
  | .dict _ => false
  | _ => true
def tameAll : List D → Bool
  | [] => true
  | d :: ds => tame d && tameAll ds
end
theorem tame_nd {d : D} (h : tame d = true) : nd d = true := by
  cases d <;> first | rfl | (simp [tame] at h)
theorem tameAll_mem : ∀ {ds : List D}, tameAll ds = true → ∀ d ∈ ds, tame d = true
  | [], _, _, m => by cases m
  | x :: xs, h, d, m => by
    rw [tameAll, Bool.and_eq_true] at h
    rcases List.mem_cons.mp m with rfl | m
    · exact h.1
    · exact tameAll_mem h.2 d m
def signsOk (d : D) (least : Int) : Bool := match d with
  | .str z => decide (least ≤ z.length) && (decide ((z.length : Int) ≤ 10) && z.cps.toList.all fun c => decide (c ∈ lettersL))
  | _ => false
theorem signsOk_str (z : Str) (least : Int) : signsOk (.str z) least = (decide (least ≤ z.length) && (decide ((z.length : Int) ≤ 10) && z.cps.toList.all fun c => decide (c ∈ lettersL))) := rfl
section
variable {P : Program} {w : World} {K : PySem.W.Frag} {mg : Str → Option Value} {base : Heap}
def sp_are_signs : DSp := fun ss Q _ => ∃ d least, ss = [.va d, .va (.int least)] ∧ tame d = true ∧ Q false (.bool (signsOk d least)) ss
theorem ok_are_signs {f : Addr} {fd : FuncData} (B : Bare mg) (C : Consts mg) (F : Fun K "are_signs" "are_signs" s_are_signs f fd) (hm : mg "are_signs" = some (.ref f)) (hb : Binds K fd ["thing", "least"] []) : Cal P w K mg base "are_signs" 1 ["thing", "least"] sp_are_signs := by
  obtain ⟨t1, C1⟩ := C.letters
  obtain ⟨t2, C2⟩ := C.signs
  refine fn_ok F hm hb sc_are_signs (by rintro ss P W ⟨_, _, rfl, _⟩; rfl) ?_
  rintro cdv A outer s H E hr ss Q W ⟨d, least, rfl, ht, q⟩
  refine sd_one (s1_ret (em_and (em_isi (.inr (.inr (.inl rfl))) B.isinstance_ B.str_ boot_str ?_)))
  refine em_var 0 rfl ⟨tame_nd ht, _, rfl, fun h1 => ?_, fun h1 => FinP.va (ds := [_, _]) ?_⟩
  · cases d with
    | str z =>
      have hz : z.length ≤ 1000000 := by simpa [tame, tameStr] using ht
      refine em_and (em_chain (by with_unfolding_all rfl) ?_)
      refine em_var 1 rfl (em_callB B.len PySem.boot_len (am_cons (em_var 0 rfl (am_nil (kd_len_str (small_line hz) (fd_le ⟨_, rfl, fun h => ?_, fun h => em_globInt C2 (fd_le ⟨_, rfl, fun h2 => em_one ?_, fun h2 => ?_⟩)⟩))))))
      · refine ⟨false, rfl, fun z => Bool.noConfusion z, fun _ => FinP.va (ds := [_, _]) ?_⟩
        have e : signsOk (.str z) least = false := by
          rw [signsOk_str, h, Bool.false_and]
        rw [e] at q
        exact q
      · refine em_callB B.all_ boot_all (am_cons ?_)
        refine em_fm (.nm 2) [("sign", 2)] rfl sc_are_signs.nd (blkOk_by (N := N_are_signs) (sc := defScope s_are_signs) (by decide +kernel)) (fun _ _ _ _ _ => pg_nm sc_are_signs.nd) (by decide) (.map (fun c : Nat => .str ⟨#[c]⟩) (fun c => .bool (decide (c ∈ lettersS.cps.toList))) (im_str (em_var 0 rfl ⟨z, rfl, z.cps.toList, rfl, small_line (by simpa [Str.length] using hz), fun c hc => ⟨_, rfl, fun _ _ _ _ _ => ?_⟩, ?_⟩)))
        · exact em_cmp rfl (em_var 2 rfl (em_globStr C1 (fd_in_sign ⟨rfl, rfl⟩)))
        · refine am_nil ?_
          have em : z.cps.toList.map (fun c => PyData.bool (decide (c ∈ lettersS.cps.toList))) = (z.cps.toList.map fun c => decide (c ∈ lettersS.cps.toList)).map .bool := by simp [Function.comp_def]
          rw [em]
          refine kd_all rfl (FinP.va (ds := [_, _]) ?_)
          have e : signsOk (.str z) least = (z.cps.toList.map fun c => decide (c ∈ lettersS.cps.toList)).all id := by
            rw [signsOk_str]
            have h2' : decide ((z.length : Int) ≤ 10) = true := h2
            rw [h, h2', Bool.true_and, Bool.true_and, letters_eq, List.all_map]
            simp [S, Function.comp_def]
          rw [e] at q
          exact q
      · refine FinP.va (ds := [_, _]) ?_
        have e : signsOk (.str z) least = false := by
          rw [signsOk_str]
          have h2' : decide ((z.length : Int) ≤ 10) = false := h2
          rw [h2', Bool.false_and, Bool.and_false]
        rw [e] at q
        exact q
    | _ => cases h1
  · have e : signsOk d least = false := by
      cases d <;> first | rfl | cases h1
    rw [e] at q
    exact q
end

/-! ### heaps -/
def hpD (h : List (List Nat)) : D := .tuple (h.map tx)
def plD (p : List Int) : D := .tuple (p.map .int)
def stD (u : List Int) (r : List Nat) : D := .tuple [plD u, tx r]
theorem atI_of {α : Type} {l : List α} {i : Int} {a : α} (h0 : 0 ≤ i) (h : l[i.toNat]? = some a) : atI l i = some a := by
  have := atI_nat (xs := l) (j := i.toNat) (v := a) h
  rwa [Int.toNat_of_nonneg h0] at this
theorem hp_at {h : List (List Nat)} {i : Int} (h0 : 0 ≤ i) (h1 : i < h.length) : atI (h.map tx) i = some (tx (shr h i)) := atI_of h0 (by rw [List.getElem?_map, shr_at h0 h1]; rfl)
def leD : D → D → Bool
  | .str x, .str y => !decide (y.cps.toList < x.cps.toList)
  | _, _ => false
def shredsOk (d : D) (least : Int) : Bool := match d with
  | .tuple ds => decide (least ≤ ds.length) && (decide ((ds.length : Int) ≤ 8) && ((ds.all fun x => signsOk x 1) && (List.range (ds.length - 1)).all fun k => leD (ds.getD k .none) (ds.getD (k + 1) .none)))
  | _ => false
theorem shredsOk_tup (ds : List D) (least : Int) : shredsOk (.tuple ds) least = (decide (least ≤ ds.length) && (decide ((ds.length : Int) ≤ 8) && ((ds.all fun x => signsOk x 1) && (List.range (ds.length - 1)).all fun k => leD (ds.getD k .none) (ds.getD (k + 1) .none)))) := rfl
theorem signsOk_is {d : D} {l : Int} (h : signsOk d l = true) : ∃ z, d = .str z := by
  cases d with
  | str z => exact ⟨z, rfl⟩
  | _ => simp [signsOk] at h
theorem atI_getD {ds : List D} {k : Nat} {i : Int} (e : i = (k : Int)) (h : k < ds.length) : atI ds i = some (ds.getD k .none) := by
  subst e
  refine atI_nat ?_
  rw [List.getElem?_eq_getElem h, List.getD_eq_getElem?_getD, List.getElem?_eq_getElem h]
  rfl
section
variable {P : Program} {w : World} {K : PySem.W.Frag} {mg : Str → Option Value} {base : Heap}
def sp_are_shreds : DSp := fun ss Q _ => ∃ d least, ss = [.va d, .va (.int least)] ∧ tame d = true ∧ Q false (.bool (shredsOk d least)) ss
theorem ok_are_shreds {f : Addr} {fd : FuncData} (B : Bare mg) (C : Consts mg) (c1 : Cal P w K mg base "are_signs" 1 ["thing", "least"] sp_are_signs) (F : Fun K "are_shreds" "are_shreds" s_are_shreds f fd) (hm : mg "are_shreds" = some (.ref f)) (hb : Binds K fd ["thing", "least"] []) : Cal P w K mg base "are_shreds" 2 ["thing", "least"] sp_are_shreds := by
  obtain ⟨t3, C3⟩ := C.shreds
  refine fn_ok F hm hb sc_are_shreds (by rintro ss P W ⟨_, _, rfl, _⟩; rfl) ?_
  rintro cdv A outer s H E hr ss Q W ⟨d, least, rfl, ht, q⟩
  have no : shredsOk d least = false → FinP [.va d, .va (.int least)] Q false (.bool false) (startS N_are_shreds.length [.va d, .va (.int least)]) := fun e => FinP.va (ds := [d, .int least]) (by rw [e] at q; exact q)
  refine sd_cons (s1_if (tm_of_um (um_or (tm_not (tm_val (em_isi (.inr (.inr (.inr (.inl rfl)))) B.isinstance_ B.tuple_ boot_tuple (em_var 0 rfl ⟨tame_nd ht, _, rfl, fun h1 => ?_, fun h1 => ⟨fun h2 => ?_, fun h2 => Bool.noConfusion h2⟩⟩)))))))
  · cases d with
    | tuple ds =>
      have hz : ds.length ≤ 1000000 := by
        have : (decide (ds.length ≤ 1000000) && tameAll ds) = true := by simpa [tame] using ht
        simp only [Bool.and_eq_true, decide_eq_true_eq] at this
        exact this.1
      have hta : tameAll ds = true := by
        have : (decide (ds.length ≤ 1000000) && tameAll ds) = true := by simpa [tame] using ht
        simp only [Bool.and_eq_true, decide_eq_true_eq] at this
        exact this.2
      have go : (decide (least ≤ (ds.length : Int)) = true ∧ decide ((ds.length : Int) ≤ 8) = true) → SD (cxOf (L2N.CX P w) P w K mg base N_are_shreds "are_shreds" (defScope s_are_shreds) f cdv A outer s H E) [(defBody s_are_shreds).getD 1 (.Pass ⟨0, 0, 0, 0⟩), (defBody s_are_shreds).getD 2 (.Pass ⟨0, 0, 0, 0⟩)] (startS N_are_shreds.length [.va (.tuple ds), .va (.int least)]) W { nx := FinP [.va (.tuple ds), .va (.int least)] Q false .none, rt := FinP [.va (.tuple ds), .va (.int least)] Q } := by
        intro ⟨g1, g2⟩
        refine sd_cons (s1_if (tm_not (tm_val (em_callB B.all_ boot_all (am_cons ?_)))))
        refine em_fm (.nm 2) [("shred", 2)] rfl sc_are_shreds.nd (blkOk_by (N := N_are_shreds) (sc := defScope s_are_shreds) (by decide +kernel)) (fun _ _ _ _ _ => pg_nm sc_are_shreds.nd) (by decide) (.map (fun x => x) (fun x => .bool (signsOk x 1)) (im_tuple (em_var 0 rfl ⟨ds, rfl, ds, by simp, small_line hz, fun x hx => ⟨_, rfl, fun _ _ _ _ _ => ?_⟩, ?_⟩)))
        · refine em_call c1 (hr.mono (by decide)) (am_cons (em_var 2 rfl (am_cons (em_int (am_nil ⟨W0, fun _ z => z, x, 1, rfl, tameAll_mem hta x hx, ?_⟩)))))
          exact ⟨rfl, rfl⟩
        · refine am_nil ?_
          have em : ds.map (fun x => PyData.bool (signsOk x 1)) = (ds.map fun x => signsOk x 1).map .bool := by simp [Function.comp_def]
          rw [em]
          refine kd_all rfl ⟨_, rfl, fun k1 => ?_, fun k1 => ?_⟩
          · refine sd_one (s1_ret (em_bool (FinP.va (ds := [_, _]) ?_)))
            have e : shredsOk (.tuple ds) least = false := by
              rw [shredsOk_tup]
              have : (ds.all fun x => signsOk x 1) = false := by
                have k1' : (ds.map fun x => signsOk x 1).all id = false := by simpa using k1
                rw [List.all_map] at k1'
                exact k1'
              rw [this]
              simp
            rw [e] at q
            exact q
          · have all1 : (ds.all fun x => signsOk x 1) = true := by
              have k1' : (ds.map fun x => signsOk x 1).all id = true := by simpa using k1
              rw [List.all_map] at k1'
              exact k1'
            refine sd_nil (sd_one (s1_ret (em_callB B.all_ boot_all (am_cons ?_))))
            refine em_fm (.nm 3) [("k", 3)] rfl sc_are_shreds.nd (blkOk_by (N := N_are_shreds) (sc := defScope s_are_shreds) (by decide +kernel)) (fun _ _ _ _ _ => pg_nm sc_are_shreds.nd) (by decide) (.map (fun k : Nat => .int (0 + (k : Int))) (fun k => .bool (leD (ds.getD k .none) (ds.getD (k + 1) .none))) (im_range1 B.range_ (em_bin (em_callB B.len PySem.boot_len (am_cons (em_var 0 rfl (am_nil (kd_len_tuple (em_int (fd_sub_int ⟨_, rfl, by omega, by omega, List.range ((ds.length : Int) - 1).toNat, rfl, small_line (by simp; omega), fun k hk => ⟨_, rfl, fun _ _ _ _ _ => ?_⟩, ?_⟩))))))))))
            · have hk' := List.mem_range.mp hk
              have hk1 : k < ds.length := by omega
              have hk2 : k + 1 < ds.length := by omega
              obtain ⟨x, ex⟩ := signsOk_is (List.all_eq_true.mp all1 (ds.getD k .none) (by rw [List.getD_eq_getElem?_getD, List.getElem?_eq_getElem hk1]; exact List.getElem_mem hk1))
              obtain ⟨y, ey⟩ := signsOk_is (List.all_eq_true.mp all1 (ds.getD (k + 1) .none) (by rw [List.getD_eq_getElem?_getD, List.getElem?_eq_getElem hk2]; exact List.getElem_mem hk2))
              refine em_cmp (nomark _) (em_ix (fun _ _ => rfl) (em_var 0 rfl (em_var 3 rfl (id_tuple (atI_getD (k := k) (by simp) hk1) ?_))))
              refine em_ix (fun _ _ => rfl) (em_var 0 rfl (em_bin (em_var 3 rfl (em_int (fd_add_int (id_tuple (atI_getD (k := k + 1) (by simp) hk2) ?_))))))
              rw [ex, ey]
              exact fd_le_str ⟨rfl, rfl⟩
            · refine am_nil ?_
              have em : (List.range ((ds.length : Int) - 1).toNat).map (fun k => PyData.bool (leD (ds.getD k .none) (ds.getD (k + 1) .none))) = ((List.range ((ds.length : Int) - 1).toNat).map fun k => leD (ds.getD k .none) (ds.getD (k + 1) .none)).map .bool := by simp [Function.comp_def]
              rw [em]
              refine kd_all rfl (FinP.va (ds := [_, _]) ?_)
              have e : shredsOk (.tuple ds) least = ((List.range ((ds.length : Int) - 1).toNat).map fun k => leD (ds.getD k .none) (ds.getD (k + 1) .none)).all id := by
                rw [shredsOk_tup, g1, g2, all1, Bool.true_and, Bool.true_and, Bool.true_and, List.all_map, show ((ds.length : Int) - 1).toNat = ds.length - 1 by omega]
                rfl
              rw [e] at q
              exact q
      refine um_or1 (tm_not (tm_chain (by with_unfolding_all rfl) ?_))
      refine em_var 1 rfl (em_callB B.len PySem.boot_len (am_cons (em_var 0 rfl (am_nil (kd_len_tuple (fd_le ⟨_, rfl, fun k1 => ⟨fun _ => ?_, fun z => ?_⟩, fun k1 => em_globInt C3 (fd_le ⟨_, rfl, fun z => ?_, fun z => ?_⟩)⟩))))))
      · refine sd_one (s1_ret (em_bool (no ?_)))
        rw [shredsOk_tup, k1, Bool.false_and]
      · cases z
      · refine sd_one (s1_ret (em_bool (no ?_)))
        have z' : decide ((ds.length : Int) ≤ 8) = false := by simpa using z
        rw [shredsOk_tup, z', Bool.false_and, Bool.and_false]
      · exact sd_nil (go ⟨k1, by simpa using z⟩)
    | _ => cases h1
  · exact sd_one (s1_ret (em_bool (no (by cases d <;> first | rfl | cases h1))))
end

theorem sorts_int {l : List Int} (h : l.length ≤ sizeLine) : Sorts PyData.int l := ⟨PySem.W.AllAlike.of fun a b => by simp [PySem.W.alike], PySem.W.Sortable.others fun b => ⟨by simp, fun xs => by simp⟩, fun b _ => by simp [PyData.depth], h⟩
theorem sorts_str {l : List Str} (h : l.length ≤ sizeLine) : Sorts PyData.str l := ⟨PySem.W.AllAlike.of fun a b => by simp [PySem.W.alike], PySem.W.Sortable.others fun b => ⟨by simp, fun xs => by simp⟩, fun b _ => by simp [PyData.depth], h⟩
theorem sorts_tx {l : List (List Nat)} (h : l.length ≤ sizeLine) : Sorts tx l := ⟨PySem.W.AllAlike.of fun a b => by simp [PySem.W.alike], PySem.W.Sortable.others fun b => ⟨by simp, fun xs => by simp⟩, fun b _ => by simp [PyData.depth], h⟩
theorem dle_int : PySem.W.dataLe false PyData.int = fun a b => decide (a ≤ b) := PySem.W.dataLe_int (fun b => b)
theorem dle_tx : PySem.W.dataLe false tx = fun a b => decide (a ≤ b) := by
  have := PySem.W.dataLe_str (fun l : List Nat => S l)
  simpa [S] using this
theorem dle_str : PySem.W.dataLe false PyData.str = fun a b => decide (a.cps.toList ≤ b.cps.toList) := PySem.W.dataLe_str (fun b => b)
theorem any_ints (u : List Int) (p : Int) : ((u.map PyData.int).any fun z => PyData.eqv z (.int p)) = decide (p ∈ u) := by
  induction u with
  | nil => rfl
  | cons x r ih =>
    rw [List.map_cons, List.any_cons, ih]
    by_cases e : x = p
    · simp [PyData.eqv, e]
    · have e2 : ¬ p = x := fun z => e z.symm
      simp [PyData.eqv, e, e2]
theorem lay_ints : ∀ u : List Int, PyData.canLayAll0 (u.map PyData.int) = true
  | [] => by simp [PyData.canLayAll0]
  | x :: u => by rw [List.map_cons, PyData.canLayAll0, lay_ints u]; simp [PyData.canLay0]
theorem shaped_ints (u : List Int) : SeqAt.shaped (.tuple (u.map PyData.int)) = true := by
  unfold SeqAt.shaped
  rw [PyData.canLay0, lay_ints, PyData.depth, PySem.W.depth_ints]
  decide
def nxD (x : NX) : D := .tuple [.int x.1, stD x.2.1 x.2.2]
def loD (o : Option (List Nat)) : D := match o with
  | some l => tx l
  | none => .none
theorem signs_hv {h : List (List Nat)} (v : Hv h) {s : List Nat} (m : s ∈ h) : signsOk (tx s) 1 = true := by
  obtain ⟨h1, h2, h3⟩ := v.each s m
  rw [signsOk_str, S_len]
  simp only [Bool.and_eq_true, decide_eq_true_eq, List.all_eq_true]
  refine ⟨by omega, by omega, fun c hc => h3 c ?_⟩
  simpa [S] using hc
theorem shreds_hv {h : List (List Nat)} (v : Hv h) : shredsOk (hpD h) 2 = true := by
  have h1 := v.lo
  have h2 := v.hi
  unfold hpD
  rw [shredsOk_tup, List.length_map]
  simp only [Bool.and_eq_true, decide_eq_true_eq, List.all_eq_true]
  refine ⟨by omega, by omega, fun x hx => ?_, fun k hk => ?_⟩
  · obtain ⟨s, hs, rfl⟩ := List.mem_map.mp hx
    exact signs_hv v hs
  · have hk := List.mem_range.mp hk
    have a1 : (h.map tx).getD k PyData.none = tx (h.getD k []) := by
      rw [List.getD_eq_getElem?_getD, List.getD_eq_getElem?_getD, List.getElem?_map, List.getElem?_eq_getElem (by omega : k < h.length)]
      rfl
    have a2 : (h.map tx).getD (k + 1) PyData.none = tx (h.getD (k + 1) []) := by
      rw [List.getD_eq_getElem?_getD, List.getD_eq_getElem?_getD, List.getElem?_map, List.getElem?_eq_getElem (by omega : k + 1 < h.length)]
      rfl
    rw [a1, a2]
    have := List.pairwise_iff_getElem.mp v.so k (k + 1) (by omega) (by omega) (by omega)
    unfold leD tx
    simp only [S, Bool.not_eq_true', decide_eq_false_iff_not]
    have g1 : h.getD k [] = h[k] := by rw [List.getD_eq_getElem?_getD, List.getElem?_eq_getElem (by omega : k < h.length)]; rfl
    have g2 : h.getD (k + 1) [] = h[k + 1] := by rw [List.getD_eq_getElem?_getD, List.getElem?_eq_getElem (by omega : k + 1 < h.length)]; rfl
    rw [g1, g2]
    exact List.not_lt.mpr this
section
variable {P : Program} {w : World} {K : PySem.W.Frag} {mg : Str → Option Value} {base : Heap}
theorem hv_tame {h : List (List Nat)} (v : Small h) : tame (hpD h) = true := by
  unfold hpD
  rw [tame, Bool.and_eq_true, decide_eq_true_eq, List.length_map]
  refine ⟨by have := v.len; omega, ?_⟩
  have : ∀ l : List (List Nat), (∀ s ∈ l, s.length ≤ 11) → tameAll (l.map tx) = true := by
    intro l
    induction l with
    | nil => intro _; simp [tameAll]
    | cons s r ih =>
      intro hs
      rw [List.map_cons, tameAll, ih fun s m => hs s (List.mem_cons_of_mem _ m), Bool.and_true, tame, tameStr, S_len, decide_eq_true_eq]
      have := hs s List.mem_cons_self
      omega
  exact this h v.each
def sp_is_heap : DSp := fun ss Q _ => ∃ d, ss = [.va d] ∧ tame d = true ∧ Q false (.bool (shredsOk d 2)) ss
theorem ok_is_heap {f : Addr} {fd : FuncData} (c : Cal P w K mg base "are_shreds" 2 ["thing", "least"] sp_are_shreds) (F : Fun K "is_heap" "is_heap" s_is_heap f fd) (hm : mg "is_heap" = some (.ref f)) (hb : Binds K fd ["thing"] []) : Cal P w K mg base "is_heap" 3 ["thing"] sp_is_heap := by
  refine fn_ok F hm hb sc_is_heap (by rintro ss P W ⟨_, rfl, _⟩; rfl) ?_
  rintro cdv A outer s H E hr ss Q W ⟨d, rfl, ht, q⟩
  exact sd_one (s1_ret (em_call c (hr.mono (by decide)) (am_cons (em_var 0 rfl (am_cons (em_int (am_nil ⟨W0, fun _ z => z.elim, d, 2, rfl, ht, FinP.va (ds := [d]) q⟩)))))))
def sp_need_heap : DSp := fun ss Q _ => ∃ h, ss = [.va (hpD h)] ∧ Hv h ∧ Q false .none ss
theorem ok_need_heap {f : Addr} {fd : FuncData} (c : Cal P w K mg base "is_heap" 3 ["thing"] sp_is_heap) (F : Fun K "need_heap" "need_heap" s_need_heap f fd) (hm : mg "need_heap" = some (.ref f)) (hb : Binds K fd ["heap"] []) : Cal P w K mg base "need_heap" 4 ["heap"] sp_need_heap := by
  refine fn_ok F hm hb sc_need_heap (by rintro ss P W ⟨_, rfl, _⟩; rfl) ?_
  rintro cdv A outer s H E hr ss Q W ⟨h, rfl, hv, q⟩
  refine sd_one (s1_if (tm_not (tm_val (em_call c (hr.mono (by decide)) (am_cons (em_var 0 rfl (am_nil ⟨W0, fun _ z => z.elim, hpD h, rfl, hv_tame hv.small, _, rfl, fun k1 => ?_, fun k1 => sd_nil (FinP.va (ds := [hpD h]) q)⟩)))))))
  rw [shreds_hv hv] at k1
  cases k1
def sp_joined : DSp := fun ss P _ => ∃ h p, ss = [.va (hpD h), .va (plD p)] ∧ Small h ∧ PlacesOk h p ∧ p.length ≤ 1000 ∧ P false (tx (joinT h p)) ss
def sp_all_beginnings : DSp := fun ss Q _ => ∃ h, ss = [.va (hpD h)] ∧ Small h ∧ Q true (.list ((begins h).map fun b => stD b.1 b.2)) ss
theorem ok_all_beginnings {f : Addr} {fd : FuncData} (B : Bare mg) (F : Fun K "all_beginnings" "all_beginnings" s_all_beginnings f fd) (hm : mg "all_beginnings" = some (.ref f)) (hb : Binds K fd ["heap"] []) : Cal P w K mg base "all_beginnings" 1 ["heap"] sp_all_beginnings := by
  refine fn_ok F hm hb sc_all_beginnings (by rintro ss P W ⟨_, rfl, _⟩; rfl) ?_
  rintro cdv A outer s H E hr ss Q W ⟨h, rfl, hs, q⟩
  refine sd_one (s1_ret ?_)
  refine em_fm (.tp [.nm 1, .nm 2]) [("place", 1), ("shred", 2)] rfl sc_all_beginnings.nd (blkOk_by (N := N_all_beginnings) (sc := defScope s_all_beginnings) (by decide +kernel)) (fun _ _ _ _ _ => pg_tp rfl (pgs_1 (pg_nm sc_all_beginnings.nd) (pgs_1 (pg_nm sc_all_beginnings.nd) pgs_0))) (by decide)
    (.map (fun i : Nat => .tuple [.int (i : Nat), (h.map tx).getD i .none]) (fun i => stD [(i : Int)] (shr h i)) (im_enumT B.enumerate_ (em_var 0 rfl ⟨_, rfl, List.range (h.map tx).length, rfl, small_line (by have := hs.len; simp; omega), fun i hi => ⟨_, rfl, fun _ _ _ _ _ => ?_⟩, FinP.va (ds := [hpD h]) ?_⟩)))
  · have hi' : i < h.length := by simpa using List.mem_range.mp hi
    refine em_tup (am_cons (em_tup (am_cons (em_var 1 rfl (am_nil ⟨small_line (by simp), rfl, ?_⟩)))))
    refine am_cons (em_var 2 rfl (am_nil ⟨small_line (by simp), ?_, rfl, ?_⟩))
    · have : (h.map tx).getD i PyData.none = tx (shr h i) := by
        unfold shr
        rw [List.getD_eq_getElem?_getD, List.getD_eq_getElem?_getD, List.getElem?_map]
        simp [List.getElem?_eq_getElem hi']
      rw [this]
      rfl
    · have : (h.map tx).getD i PyData.none = tx (shr h i) := by
        unfold shr
        rw [List.getD_eq_getElem?_getD, List.getD_eq_getElem?_getD, List.getElem?_map]
        simp [List.getElem?_eq_getElem hi']
      rw [this]
      rfl
  · have e : (List.range (h.map tx).length).map (fun i : Nat => stD [(i : Int)] (shr h i)) = (begins h).map fun b => stD b.1 b.2 := by
      unfold begins
      rw [List.length_map, List.map_map]
      rfl
    rw [e]
    exact q
def sp_left_over : DSp := fun ss Q _ => ∃ r s, ss = [.va (tx r), .va (tx s)] ∧ r.length ≤ 1000 ∧ s.length ≤ 1000 ∧ Q false (loD (lo r s)) ss
theorem ok_left_over {f : Addr} {fd : FuncData} (B : Bare mg) (F : Fun K "left_over" "left_over" s_left_over f fd) (hm : mg "left_over" = some (.ref f)) (hb : Binds K fd ["rest", "shred"] []) : Cal P w K mg base "left_over" 1 ["rest", "shred"] sp_left_over := by
  refine fn_ok F hm hb sc_left_over (by rintro ss P W ⟨_, _, rfl, _⟩; rfl) ?_
  rintro cdv A outer s H E hr ss Q W ⟨r, s, rfl, h1, h2, q⟩
  have l1 : (S r).length ≤ sizeLine := by rw [S_len]; exact small_line (by omega)
  have l2 : (S s).length ≤ sizeLine := by rw [S_len]; exact small_line (by omega)
  refine sd_cons (s1_if (tm_val (em_meth PySem.F.slot_str_startswith PySem.F.type_str_startswith (em_var 0 rfl ⟨_, rfl, am_cons (em_var 1 rfl (am_nil (md_startswith ⟨_, rfl, fun k1 => ?_, fun k1 => sd_nil ?_⟩)))⟩))))
  · rw [startswith_S] at k1
    refine sd_one (s1_ret (em_sl (em_var 0 rfl (om_some (em_callB B.len PySem.boot_len (am_cons (em_var 1 rfl (am_nil (kd_len_str l2 ⟨_, rfl, om_none (ld_str l1 (FinP.va (ds := [tx r, tx s]) ?_))⟩)))))))))
    rw [S_len, cutS_S, cut_drop]
    have e : lo r s = some (r.drop s.length) := by unfold lo; rw [if_pos k1]
    rw [e] at q
    exact q
  · rw [startswith_S] at k1
    refine sd_one (s1_ret (em_ite (tm_val (em_meth PySem.F.slot_str_startswith PySem.F.type_str_startswith (em_var 1 rfl ⟨_, rfl, am_cons (em_var 0 rfl (am_nil (md_startswith ⟨_, rfl, fun k2 => ?_, fun k2 => ?_⟩)))⟩)))))
    · rw [startswith_S] at k2
      refine em_sl (em_var 1 rfl (om_some (em_callB B.len PySem.boot_len (am_cons (em_var 0 rfl (am_nil (kd_len_str l1 ⟨_, rfl, om_none (ld_str l2 (FinP.va (ds := [tx r, tx s]) ?_))⟩)))))))
      rw [S_len, cutS_S, cut_drop]
      have e : lo r s = some (s.drop r.length) := by unfold lo; rw [if_neg (by rw [k1]; exact Bool.false_ne_true), if_pos k2]
      rw [e] at q
      exact q
    · rw [startswith_S] at k2
      refine em_none (FinP.va (ds := [tx r, tx s]) ?_)
      have e : lo r s = none := by unfold lo; rw [if_neg (by rw [k1]; exact Bool.false_ne_true), if_neg (by rw [k2]; exact Bool.false_ne_true)]
      rw [e] at q
      exact q
def sp_is_end : DSp := fun ss Q _ => ∃ h u r, ss = [.va (hpD h), .va (stD u r)] ∧ Q false (.bool (isE h u r)) ss
end

theorem shaped_int (i : Int) : SeqAt.shaped (.int i) = true := by simp [SeqAt.shaped, PyData.canLay0, PyData.depth]
theorem room65 {k : Nat} {A : Around} (r : Room k A) : A.units + 65 < cLine := by have := r.un; omega
theorem S_empty : Str.ofString "" = S [] := rfl
theorem S_nil {r : List Nat} : decide (S r = Str.ofString "") = decide (r = []) := by
  rw [S_empty]
  simp only [S_inj]
theorem loD_none {o : Option (List Nat)} : isN (loD o) = o.isNone := by cases o <;> rfl
theorem lo_le {r s l : List Nat} (h : lo r s = some l) : l.length ≤ r.length ∨ l.length ≤ s.length := by
  unfold lo at h
  split at h
  · cases h
    left
    rw [List.length_drop]
    omega
  · split at h
    · cases h
      right
      rw [List.length_drop]
      omega
    · cases h
section
variable {P : Program} {w : World} {K : PySem.W.Frag} {mg : Str → Option Value} {base : Heap}
def sp_next_to : DSp := fun ss Q _ => ∃ h u r, ss = [.va (hpD h), .va (stD u r)] ∧ Small h ∧ u.length ≤ 100 ∧ r.length ≤ 100 ∧ Q true (.list ((nexts h u r).map nxD)) ss
theorem ok_next_to {f : Addr} {fd : FuncData} (B : Bare mg) (c1 : Cal P w K mg base "left_over" 1 ["rest", "shred"] sp_left_over) (F : Fun K "next_to" "next_to" s_next_to f fd) (hm : mg "next_to" = some (.ref f)) (hb : Binds K fd ["heap", "standing"] []) : Cal P w K mg base "next_to" 2 ["heap", "standing"] sp_next_to := by
  refine fn_ok F hm hb sc_next_to (by rintro ss P W ⟨_, _, _, rfl, _⟩; rfl) ?_
  rintro cdv A outer s H E hr ss Q W ⟨h, u, r, rfl, hs, hu, hl, q⟩
  refine sd_cons (s1_unpack (.tp [.nm 2, .nm 3]) (pg_tp rfl (pgs_1 (pg_nm sc_next_to.nd) (pgs_1 (pg_nm sc_next_to.nd) pgs_0))) (em_var 1 rfl ⟨_, rfl, ?_⟩))
  refine sd_cons (s1_set 4 sc_next_to.nd (vm_own (em_lst (am_nil ⟨small_line (by simp), rfl, rfl, [], rfl, fun p => ?_⟩))))
  refine sd_cons (s1_for (.tp [.nm 5, .nm 6]) (passes_of rfl) rfl (pg_tp rfl (pgs_1 (pg_nm sc_next_to.nd) (pgs_1 (pg_nm sc_next_to.nd) pgs_0))) (im_enumT B.enumerate_ (em_var 0 rfl ⟨_, rfl, ?_⟩)))
  refine ⟨fun i ρ => ∃ s5 s6 s7, ρ = [.va (hpD h), .va (stD u r), .va (plD u), .va (tx r), .mo p (.lst (((List.range i).filterMap (nx1 h u r)).map nxD)), s5, s6, s7], ⟨_, _, _, rfl⟩, ?_, ?_⟩
  · rintro i d ρ2 hd ⟨s5, s6, s7, rfl⟩
    have hi : i < h.length := by
      have := (List.getElem?_eq_some_iff.mp hd).1
      rwa [enumD_len, List.length_map] at this
    have hsh : (h.map tx)[i]? = some (tx (shr h i)) := by
      rw [List.getElem?_map, show h[i]? = some (shr h i) from shr_at (i := (i : Int)) (by omega) (by omega)]
      rfl
    rw [enumD_at hsh] at hd
    cases hd
    refine ⟨_, rfl, ?_⟩
    have le : (((List.range i).filterMap (nx1 h u r)).map nxD).length ≤ 9 := by
      rw [List.length_map]
      refine Nat.le_trans (List.length_filterMap_le _ _) ?_
      rw [List.length_range]
      have := hs.len
      omega
    have sk : nx1 h u r i = none → ∀ s5 s6 s7, ∃ a b c, [.va (hpD h), .va (stD u r), .va (plD u), .va (tx r), .mo p (.lst (((List.range i).filterMap (nx1 h u r)).map nxD)), s5, s6, s7] = [.va (hpD h), .va (stD u r), .va (plD u), .va (tx r), Sl.mo p (.lst (((List.range (i + 1)).filterMap (nx1 h u r)).map nxD)), a, b, c] := fun e s5 s6 s7 => ⟨s5, s6, s7, by rw [List.range_succ, List.filterMap_append, List.filterMap_cons_none e, List.filterMap_nil, List.append_nil]⟩
    refine sd_one (s1_if (tm_of_um (um_and (tm_cmp rfl (em_var 3 rfl (em_str (fd_ne_str ⟨_, rfl, fun k1 => ?_, fun k1 => ⟨fun z => (Bool.noConfusion z), fun _ => sd_nil ?_⟩⟩)))))))
    · refine um_and1 (tm_cmp rfl (em_var 5 rfl (em_var 2 rfl (fd_notIn_tuple (room65 hr) (shaped_int i) (shaped_ints u) ⟨_, rfl, fun k2 => ?_, fun k2 => sd_nil ?_⟩))))
      · have hne : r ≠ [] := by
          rw [S_nil] at k1
          simpa using k1
        have hni : (i : Int) ∉ u := by
          rw [any_ints] at k2
          simpa using k2
        refine sd_cons (s1_set 7 sc_next_to.nd (vm_data (em_call c1 (hr.mono (by decide)) (am_cons (em_var 3 rfl (am_cons (em_var 6 rfl (am_nil ⟨W0, fun _ z => z.elim, r, shr h i, rfl, by omega, Nat.le_trans (shr_le hs i) (by decide), ?_⟩))))))))
        refine sd_one (s1_if (tm_cmp rfl (em_var 7 rfl (em_none (fd_isnot_none ⟨_, rfl, fun k3 => ?_, fun k3 => sd_nil ?_⟩)))))
        · rw [loD_none] at k3
          cases el : lo r (shr h i) with
          | none => rw [el] at k3; cases k3
          | some l =>
            refine sd_one (s1_expr (em_append 4 rfl ?_))
            refine em_tup (am_cons (em_var 5 rfl (am_cons (em_tup (am_cons (em_callTy B.tuple_ PyProof.Rows.boot_tuple (am_cons (em_callB B.sorted_ PyProof.Rows.boot_sorted (am_cons (em_bin (em_var 2 rfl (em_tup (am_cons (em_var 5 rfl (am_nil ⟨small_line (by simp), rfl, fd_add_tuple (small_line (by simp; omega)) (am_nil ?_)⟩)))))))))))))))
            rw [show u.map PyData.int ++ [PyData.int (i : Nat)] = (u ++ [(i : Int)]).map PyData.int by simp]
            refine kd_sorted_tuple (hr.units) (sorts_int (small_line (by simp; omega))) (am_nil (kd_tuple_list ?_))
            refine am_cons (em_var 7 rfl (am_nil ⟨small_line (by simp), rfl, am_nil ⟨small_line (by simp), rfl, _, rfl, rfl, Nat.lt_of_le_of_lt le (by rw [sizeLine_eq]; omega), ?_⟩⟩))
            have e1 : nx1 h u r i = some ((i : Int), ins u i, l) := by unfold nx1; rw [if_pos ⟨hne, hni⟩, el]; rfl
            have e2 : ((List.range (i + 1)).filterMap (nx1 h u r)).map nxD = ((List.range i).filterMap (nx1 h u r)).map nxD ++ [nxD ((i : Int), ins u i, l)] := by
              rw [List.range_succ, List.filterMap_append, List.filterMap_cons_some e1, List.filterMap_nil, List.map_append]
              rfl
            have e3 : nxD ((i : Int), ins u i, l) = .tuple [.int (i : Nat), .tuple [.tuple (((u ++ [(i : Int)]).mergeSort (PySem.W.dataLe false PyData.int)).map PyData.int), loD (some l)]] := by
              rw [dle_int]
              rfl
            refine ⟨.va (.int (i : Nat)), .va (tx (shr h i)), .va (loD (some l)), ?_⟩
            rw [e2, e3]
            rfl
        · rw [loD_none] at k3
          have el : lo r (shr h i) = none := by
            cases el : lo r (shr h i) with
            | none => rfl
            | some l => rw [el] at k3; cases k3
          exact sk (by unfold nx1; rw [el]; simp) _ _ _
      · have hni : (i : Int) ∈ u := by
          rw [any_ints] at k2
          simpa using k2
        exact sk (by unfold nx1; rw [if_neg fun z => z.2 hni]) _ _ _
    · have hne : r = [] := by
        rw [S_nil] at k1
        simpa using k1
      exact sk (by unfold nx1; rw [if_neg fun z => z.1 hne]) _ _ _
  · rintro ρ2 ⟨s5, s6, s7, rfl⟩
    refine sd_one (s1_retOwn 4 rfl (FinP.va (ds := [hpD h, stD u r]) ?_))
    rw [enumD_len, List.length_map]
    exact q
end

/-! ### what is known of standings -/
def stKs (u : List Int) (r : List Nat) : List NestedKey := [.tup (u.map .num), .text (S r)]
def stK (u : List Int) (r : List Nat) : NestedKey := .tup (stKs u r)
theorem datas_nums : ∀ u : List Int, NestedKey.datas (u.map .num) = u.map PyData.int
  | [] => rfl
  | x :: u => by rw [List.map_cons, NestedKey.datas, datas_nums u]; rfl
theorem stK_data (u : List Int) (r : List Nat) : stD u r = (NestedKey.tup (stKs u r)).data := by
  show _ = PyData.tuple [.tuple (NestedKey.datas (u.map .num)), .str (S r)]
  rw [datas_nums]
  rfl
theorem depth_nums : ∀ u : List Int, NestedKey.depthAll (u.map .num) = 0
  | [] => rfl
  | x :: u => by rw [List.map_cons, NestedKey.depthAll, depth_nums u]; rfl
theorem stK_depth (u : List Int) (r : List Nat) : (NestedKey.tup (stKs u r)).depth ≤ 8 := by
  show max (NestedKey.depthAll (u.map .num) + 1) (max 0 0) + 1 ≤ 8
  rw [depth_nums]
  decide
theorem nums_inj {a b : List Int} (h : a.map NestedKey.num = b.map NestedKey.num) : a = b := (List.map_inj_right fun _ _ e => NestedKey.num.inj e).mp h
theorem stK_inj {u u' : List Int} {r r' : List Nat} (h : stK u r = stK u' r') : u = u' ∧ r = r' := by
  have h2 := NestedKey.tup.inj h
  simp only [stKs, List.cons.injEq, NestedKey.tup.injEq, NestedKey.text.injEq, and_true] at h2
  exact ⟨nums_inj h2.1, S_inj.mp h2.2⟩
structure KnOk (h : List (List Nat)) (val : List Int → List Nat → D) (kvs : List (NestedKey × D)) : Prop where
  nd : (kvs.map (·.1)).Nodup
  ok : ∀ x ∈ kvs, ∃ u r, VS h u r ∧ x = (stK u r, val u r)
theorem KnOk.nil {h : List (List Nat)} {val : List Int → List Nat → D} : KnOk h val [] := ⟨List.nodup_nil, fun _ m => absurd m List.not_mem_nil⟩
theorem KnOk.val {h : List (List Nat)} {val : List Int → List Nat → D} {kvs : List (NestedKey × D)} (k : KnOk h val kvs) {u : List Int} {r : List Nat} {d : D} (e : valD kvs (stK u r) = some d) : d = val u r := by
  unfold valD fnd at e
  obtain ⟨x, hx, rfl⟩ := Option.map_eq_some_iff.mp e
  have m := List.mem_of_find?_eq_some hx
  have q := of_decide_eq_true (List.find?_some (p := fun x : NestedKey × D => decide (x.1 = stK u r)) hx)
  obtain ⟨u', r', _, e2⟩ := k.ok x m
  rw [e2] at q ⊢
  obtain ⟨rfl, rfl⟩ := stK_inj q
  rfl
theorem KnOk.put {h : List (List Nat)} {val : List Int → List Nat → D} {kvs : List (NestedKey × D)} (k : KnOk h val kvs) {u : List Int} {r : List Nat} (v : VS h u r) : KnOk h val (putD kvs (stK u r) (val u r)) := by
  refine ⟨putD_nodup k.nd, fun x m => ?_⟩
  cases e : valD kvs (stK u r) with
  | none =>
    rw [putD_new e] at m
    rcases List.mem_append.mp m with m | m
    · exact k.ok x m
    · exact ⟨u, r, v, List.mem_singleton.mp m⟩
  | some d =>
    unfold putD ptb at m
    unfold valD at e
    obtain ⟨y, hy, _⟩ := Option.map_eq_some_iff.mp e
    rw [hy] at m
    rw [if_pos (show (some y).isSome = true from rfl)] at m
    obtain ⟨z, mz, e2⟩ := List.mem_map.mp m
    split at e2
    · rename_i c
      exact ⟨u, r, v, by rw [← e2]; exact Prod.ext c rfl⟩
    · rw [← e2]
      exact k.ok z mz
theorem KnOk.small {h : List (List Nat)} {val : List Int → List Nat → D} {kvs : List (NestedKey × D)} (k : KnOk h val kvs) (s : Small h) : kvs.length < sizeLine := by
  have h1 := nodup_le (kvs.map (·.1)) ((allS h).map fun p => stK p.1 p.2) k.nd fun x m => by
    obtain ⟨y, my, rfl⟩ := List.mem_map.mp m
    obtain ⟨u, r, v, e⟩ := k.ok y my
    exact List.mem_map.mpr ⟨(u, r), mem_allS s v, by rw [e]⟩
  have h2 := allS_len s
  rw [List.length_map, List.length_map] at h1
  rw [sizeLine_eq]
  omega
/-- a def of a heap, a standing and what is known: its worth, the known behind it -/
def sp_known (w : World) (val : List (List Nat) → List Int → List Nat → D) (n : Nat) : DSp := fun ss Q _ => ∃ h u r p kvs, ss = [.va (hpD h), .va (stD u r), .mo p (.dn w p kvs)] ∧ Small h ∧ VS h u r ∧ rm h u ≤ n ∧ KnOk h (val h) kvs ∧
  ∀ kvs', KnOk h (val h) kvs' → Q false (val h u r) [.va (hpD h), .va (stD u r), .mo p (.dn w p kvs')]
theorem FinP.three {a b : D} {p : Addr} {m m' : MO} {Q : Bool → D → List Sl → Prop} {d : D} {ρ : List Sl} (h2 : ρ[2]? = some (.mo p m')) (q : Q false d [.va a, .va b, .mo p m']) : FinP [.va a, .va b, .mo p m] Q false d ρ := by
  refine ⟨[.va a, .va b, .mo p m'], ⟨rfl, fun i s e => ?_⟩, q, fun z => nomatch z⟩
  match i, e with
  | 0, e => cases e; exact .inl ⟨rfl, _, rfl⟩
  | 1, e => cases e; exact .inl ⟨rfl, _, rfl⟩
  | 2, e => cases e; exact .inr ⟨p, m, m', rfl, rfl, h2⟩
section
variable {P : Program} {w : World} {K : PySem.W.Frag} {mg : Str → Option Value} {base : Heap}
def wysD (h : List (List Nat)) (u : List Int) (r : List Nat) : D := .int (wys h u r)
theorem boot_int : bootBuiltins "int" = some (.type "int") := by decide +kernel
end

theorem addS_S (ks : List (List Nat)) (k : List Nat) : addS (ks.map S) (S k) = (addL ks k).map S := by
  unfold addS addL
  have e : (S k ∈ ks.map S) ↔ k ∈ ks := by
    rw [List.mem_map]
    exact ⟨fun ⟨x, m, e⟩ => S_inj.mp e ▸ m, fun m => ⟨k, m, rfl⟩⟩
  by_cases h : k ∈ ks
  · rw [if_pos (e.mpr h), if_pos h]
  · rw [if_neg fun z => h (e.mp z), if_neg h, List.map_append]
    rfl
section
variable {P : Program} {w : World} {K : PySem.W.Frag} {mg : Str → Option Value} {base : Heap}
def canD (h : List (List Nat)) (u : List Int) (r : List Nat) : D := .bool (can h u r)
def tlsD (h : List (List Nat)) (u : List Int) (r : List Nat) : D := dictD ((tls h u r).map S)
end

def layKs (L : LY) : List NestedKey := [.tup (L.1.map .num), .tup (L.2.map .num)]
def layK (L : LY) : NestedKey := .tup (layKs L)
def lyD (L : LY) : D := .tuple [plD L.1, plD L.2]
theorem layK_data (L : LY) : lyD L = (layK L).data := by
  show _ = PyData.tuple [.tuple (NestedKey.datas (L.1.map .num)), .tuple (NestedKey.datas (L.2.map .num))]
  rw [datas_nums, datas_nums]
  rfl
theorem layK_depth (L : LY) : (NestedKey.tup (layKs L)).depth ≤ 8 := by
  show max (NestedKey.depthAll (L.1.map .num) + 1) (max (NestedKey.depthAll (L.2.map .num) + 1) 0) + 1 ≤ 8
  rw [depth_nums, depth_nums]
  decide
theorem layK_inj {L M : LY} (h : layK L = layK M) : L = M := by
  have h2 := NestedKey.tup.inj h
  simp only [layKs, List.cons.injEq, NestedKey.tup.injEq, and_true] at h2
  exact Prod.ext (nums_inj h2.1) (nums_inj h2.2)
def fdK (F : List LY) : List (NestedKey × D) := F.map fun L => (layK L, .bool true)
theorem fdK_put (F : List LY) (L : LY) : putD (fdK F) (layK L) (.bool true) = fdK (addN F L) := by
  have hm : (valD (fdK F) (layK L)).isSome = true ↔ L ∈ F := by
    rw [valD_isSome]
    unfold fdK
    rw [List.map_map, List.mem_map]
    exact ⟨fun ⟨M, m, e⟩ => layK_inj (show layK M = layK L from e) ▸ m, fun m => ⟨L, m, rfl⟩⟩
  unfold addN
  by_cases c : L ∈ F
  · rw [if_pos c]
    unfold putD ptb
    have : (fnd (fun x : NestedKey × D => x.1) (fdK F) (layK L)).isSome = true := by
      have := hm.mpr c
      unfold valD at this
      rwa [Option.isSome_map] at this
    rw [if_pos this]
    unfold fdK
    rw [List.map_map]
    refine List.map_congr_left fun M _ => ?_
    simp only [Function.comp]
    split <;> rfl
  · rw [if_neg c, putD_new]
    · unfold fdK
      rw [List.map_append]
      rfl
    · cases e : valD (fdK F) (layK L) with
      | none => rfl
      | some d => exact absurd (hm.mp (by rw [e]; rfl)) c
def enD (e : EN4) : D := .tuple [stD e.1 e.2.1, plD e.2.2.1, plD e.2.2.2]
theorem strOk_S {r : List Nat} (h : ∀ c ∈ r, c < 0x110000) : PyData.strOk (S r) = true := by
  unfold PyData.strOk S
  rw [← Array.all_toList]
  simp only [List.all_eq_true, decide_eq_true_eq]
  exact fun c m => h c (by simpa using m)
theorem lay_en {e : EN4} (h : ∀ c ∈ e.2.1, c < 0x110000) : PyData.canLay0 (enD e) = true := by
  have h1 : PyData.canLay0 (.str (S e.2.1)) = true := by rw [PyData.canLay0]; exact strOk_S h
  simp only [enD, stD, plD, tx, PyData.canLay0, PyData.canLayAll0, lay_ints, Bool.and_self, Bool.and_true, Bool.true_and] at h1 ⊢
  exact h1
theorem depth_en (e : EN4) : PyData.depth (enD e) ≤ 3 := by
  simp only [enD, stD, plD, tx, PyData.depth, PyData.depthAll, PySem.W.depth_ints]
  decide
theorem shaped_ens {st : List EN4} (h : ∀ e ∈ st, ∀ c ∈ e.2.1, c < 0x110000) : SeqAt.shaped (.list (st.map enD)) = true := by
  unfold SeqAt.shaped
  have a : ∀ st : List EN4, (∀ e ∈ st, ∀ c ∈ e.2.1, c < 0x110000) → PyData.canLayAll0 (st.map enD) = true ∧ PyData.depthAll (st.map enD) ≤ 3 := by
    intro st
    induction st with
    | nil => intro _; exact ⟨by simp [PyData.canLayAll0], by simp [PyData.depthAll]⟩
    | cons e st ih =>
      intro h
      obtain ⟨i1, i2⟩ := ih fun x m => h x (List.mem_cons_of_mem _ m)
      rw [List.map_cons, PyData.canLayAll0, lay_en (h e List.mem_cons_self), i1, PyData.depthAll]
      have := depth_en e
      exact ⟨rfl, by omega⟩
  obtain ⟨a1, a2⟩ := a st h
  rw [PyData.canLay0, a1, PyData.depth]
  simp only [Bool.true_and, decide_eq_true_eq]
  omega
theorem Hv.ne {h : List (List Nat)} (v : Hv h) : ∀ s ∈ h, s ≠ [] := fun s m e => by
  have := (v.each s m).1
  rw [e] at this
  exact absurd this (by decide)
theorem lett_lt : ∀ c ∈ lettersL, c < 0x110000 := by decide
theorem Hv.sfx {h : List (List Nat)} (v : Hv h) {r : List Nat} (s : Sfx h r) : ∀ c ∈ r, c < 0x110000 := by
  obtain ⟨s, hs, k, rfl⟩ := s
  exact fun c m => lett_lt c ((v.each s hs).2.2 c (List.mem_of_mem_drop m))
theorem texts_sorted (l : List (List Nat)) : ((l.map S).mergeSort (PySem.W.dataLe false PyData.str)).map PyData.str = (l.mergeSort fun a b => decide (a ≤ b)).map tx := by
  rw [dle_str]
  have : (l.map S).mergeSort (fun a b => decide (a.cps.toList ≤ b.cps.toList)) = (l.mergeSort fun a b => decide (a ≤ b)).map S := by
    symm
    refine List.map_mergeSort fun a _ b _ => ?_
    simp [S]
  rw [this, List.map_map]
  rfl
theorem textsFold_len {h : List (List Nat)} (s : Small h) : ∀ {l : List (List Int × List Nat)} {acc : List (List Nat)}, (∀ b ∈ l, b ∈ begins h) → (l.foldl (fun acc b => (tls h b.1 b.2).foldl (fun acc t => addL acc (b.2 ++ t)) acc) acc).length ≤ acc.length + l.length * 40320
  | [], acc, _ => by simp
  | b :: l, acc, sub => by
    rw [List.foldl_cons]
    have i := textsFold_len s (l := l) (acc := (tls h b.1 b.2).foldl (fun acc t => addL acc (b.2 ++ t)) acc) fun x m => sub x (List.mem_cons_of_mem _ m)
    have h1 := addAll_len (fun t => b.2 ++ t) (tls h b.1 b.2) acc
    have h2 := tls_small (r := b.2) s (begin_vs (sub b List.mem_cons_self)).1.us
    have h3 : ((tls h b.1 b.2).foldl (fun acc t => addL acc (b.2 ++ t)) acc) = addAll (fun t => b.2 ++ t) acc (tls h b.1 b.2) := rfl
    rw [h3] at i ⊢
    rw [List.length_cons, Nat.succ_mul]
    omega
theorem begins_len (h : List (List Nat)) : (begins h).length = h.length := by simp [begins]
def txStep (h : List (List Nat)) (acc : List (List Nat)) (b : List Int × List Nat) : List (List Nat) := (tls h b.1 b.2).foldl (fun acc t => addL acc (b.2 ++ t)) acc
theorem rm_begin {h : List (List Nat)} {b : List Int × List Nat} (s : Small h) (m : b ∈ begins h) : rm h b.1 ≤ 7 := by
  have := (begin_vs m).2
  have := s.len
  unfold rm
  omega
section
variable {P : Program} {w : World} {K : PySem.W.Frag} {mg : Str → Option Value} {base : Heap}
def sp_texts : DSp := fun ss Q _ => ∃ h, ss = [.va (hpD h)] ∧ Hv h ∧ Q true (.list (((textsU h).mergeSort fun a b => decide (a ≤ b)).map tx)) ss
def sp_how_many : DSp := fun ss Q _ => ∃ h, ss = [.va (hpD h)] ∧ Hv h ∧ Q false (.int ((manyW h / 2 : Nat) : Int)) ss
end

theorem alike_ly (L M : LY) : PySem.W.alike (lyD L) (lyD M) = true := by
  simp [lyD, plD, PySem.W.alike, PySem.W.alikeAll, PySem.W.alike_ints]
theorem depth_ly (L : LY) : PyData.depth (lyD L) ≤ 2 := by
  simp only [lyD, plD, PyData.depth, PyData.depthAll, PySem.W.depth_ints]
  decide
theorem sorts_ly {F : List LY} (h : F.length ≤ sizeLine) : Sorts lyD F := ⟨PySem.W.AllAlike.of alike_ly, PySem.W.Sortable.tuples fun L => ⟨_, _, rfl⟩, fun L _ => Nat.le_trans (depth_ly L) (by decide), h⟩
/-- the layings of a heap, told in order -/
def laysOf (h : List (List Nat)) (Ls : List LY) : Prop := ∃ F : List LY, F.Nodup ∧ (∀ L, L ∈ F ↔ isNL h L) ∧ Ls = F.mergeSort (PySem.W.dataLe false lyD)
theorem shaped_lys (Ls : List LY) : SeqAt.shaped (.list (Ls.map lyD)) = true := by
  unfold SeqAt.shaped
  have a : PyData.canLayAll0 (Ls.map lyD) = true ∧ PyData.depthAll (Ls.map lyD) ≤ 2 := by
    induction Ls with
    | nil => exact ⟨by simp [PyData.canLayAll0], by simp [PyData.depthAll]⟩
    | cons L Ls ih =>
      obtain ⟨i1, i2⟩ := ih
      have h1 : PyData.canLay0 (lyD L) = true := by simp [lyD, plD, PyData.canLay0, PyData.canLayAll0, lay_ints]
      rw [List.map_cons, PyData.canLayAll0, h1, i1, PyData.depthAll]
      have := depth_ly L
      exact ⟨rfl, by omega⟩
  rw [PyData.canLay0, a.1, PyData.depth]
  have := a.2
  simp only [Bool.true_and, decide_eq_true_eq]
  omega
section
variable {P : Program} {w : World} {K : PySem.W.Frag} {mg : Str → Option Value} {base : Heap}
def sp_layings_of : DSp := fun ss Q _ => ∃ h, ss = [.va (hpD h)] ∧ Hv h ∧ ∀ Ls, laysOf h Ls → Q true (.list (Ls.map lyD)) ss
theorem EnOk.len {h : List (List Nat)} {e : EN4} (ok : EnOk h e) (s : Small h) : e.2.2.1.length ≤ 8 ∧ e.2.2.2.length ≤ 8 ∧ PlacesOk h e.2.2.1 ∧ PlacesOk h e.2.2.2 := by
  have h1 := ok.pm.length_eq
  have h2 := us_len ok.vs.us
  have := s.len
  rw [List.length_append] at h1
  exact ⟨by omega, by omega, fun i m => ok.vs.us.ok i (ok.pm.mem_iff.mp (List.mem_append_left _ m)), fun i m => ok.vs.us.ok i (ok.pm.mem_iff.mp (List.mem_append_right _ m))⟩
def frsD (Ls : List LY) : D := match Ls with
  | [] => .none
  | L :: _ => lyD L
def sp_first_laying : DSp := fun ss Q _ => ∃ h, ss = [.va (hpD h)] ∧ Hv h ∧ ∀ Ls, laysOf h Ls → Q false (frsD Ls) ss
end

/-! ### the law's own draws -/
structure WellOk (ds : List D) : Prop where
  is : ∃ a b c : Int, ds = [.int a, .int b, .int c] ∧ 0 ≤ a ∧ 0 ≤ b ∧ b < 2 ^ 40 ∧ 0 < c ∧ c < 2 ^ 40
theorem FinP.mova {b : D} {p : Addr} {m m' : MO} {Q : Bool → D → List Sl → Prop} {d : D} {ρ : List Sl} (h2 : ρ[0]? = some (.mo p m')) (q : Q false d [.mo p m', .va b]) : FinP [.mo p m, .va b] Q false d ρ := by
  refine ⟨[.mo p m', .va b], ⟨rfl, fun i s e => ?_⟩, q, fun z => nomatch z⟩
  match i, e with
  | 0, e => cases e; exact .inr ⟨p, m, m', rfl, rfl, h2⟩
  | 1, e => cases e; exact .inl ⟨rfl, _, rfl⟩
section
variable {P : Program} {w : World} {K : PySem.W.Frag} {mg : Str → Option Value} {base : Heap}
def sp_well : DSp := fun ss Q _ => ∃ ns k, ss = [.va (scriptD ns), .va (.int k)] ∧ 0 ≤ k ∧ k ≤ 1000 ∧ ∀ ds, WellOk ds → Q true (.list ds) ss
theorem ok_law_well {f : Addr} {fd : FuncData} (B : Bare mg) (F : Fun K "_law_well" "_law_well" s_law_well f fd) (hm : mg "_law_well" = some (.ref f)) (hb : Binds K fd ["script", "k"] []) : Cal P w K mg base "_law_well" 1 ["script", "k"] sp_well := by
  refine fn_ok F hm hb sc_law_well (by rintro ss P W ⟨_, _, rfl, _⟩; rfl) ?_
  rintro cdv A outer s H E hr ss Q W ⟨ns, k, rfl, hk0, hk1, q⟩
  refine sd_cons (s1_set 2 sc_law_well.nd (vm_data (em_int ?_)))
  have main : ∀ cell : Int, SD (cxOf (L2N.CX P w) P w K mg base N_law_well "_law_well" (defScope s_law_well) f cdv A outer s H E) ((defBody s_law_well).drop 2) [.va (scriptD ns), .va (.int k), .va (.int cell), .no, .no] W { nx := FinP [.va (scriptD ns), .va (.int k)] Q false .none, rt := FinP [.va (scriptD ns), .va (.int k)] Q } := by
    intro cell
    refine sd_cons (s1_set 3 sc_law_well.nd (vm_data (em_lst ?_)))
    repeat walk_at "e"
    refine ⟨small_line (by simp), rfl, ?_⟩
    refine sd_cons (s1_set 4 sc_law_well.nd (vm_data (em_bin (em_bin (em_bin (em_bin (em_var 2 rfl (em_int (fd_mod_int (by decide) (em_int (fd_add_int ?_)))))))))))
    refine em_bin (em_int (em_bin (em_int (em_var 1 rfl (fd_mul_int (.inl ⟨by decide, by decide⟩) (fd_add_int (fd_mul_int ?_ (em_int (fd_mod_int (by decide) ?_)))))))))
    · have h1 := Int.emod_nonneg cell (show (2147483489 : Int) ≠ 0 by decide)
      have h2 := Int.emod_lt_of_pos cell (show (0 : Int) < 2147483489 by decide)
      exact .inl ⟨by omega, by omega⟩
    generalize hs1 : ((cell % 2147483489 + 1) * (48271 + 2 * k)) % 2147483489 = s1
    have s10 : 0 ≤ s1 := by rw [← hs1]; exact Int.emod_nonneg _ (by decide)
    have s11 : s1 < 2147483489 := by rw [← hs1]; exact Int.emod_lt_of_pos _ (by decide)
    refine sd_cons (s1_set 4 sc_law_well.nd (vm_data (em_bin (em_bin (em_bin (em_bin (em_var 4 rfl (em_var 4 rfl (fd_mul_int (.inl ⟨by omega, by omega⟩) (em_int (fd_mod_int (by decide) ?_)))))))))))
    refine em_var 1 rfl (fd_add_int (em_int (fd_add_int ?_)))
    generalize hs2 : s1 * s1 % 2147483477 = s2
    have s20 : 0 ≤ s2 := by rw [← hs2]; exact Int.emod_nonneg _ (by decide)
    have s21 : s2 < 2147483477 := by rw [← hs2]; exact Int.emod_lt_of_pos _ (by decide)
    have pr : ∃ c : Int, 0 < c ∧ c < 2 ^ 40 ∧ atI [PyData.int 2147483647, .int 2147483629, .int 2147483587, .int 2147483579, .int 2147483563, .int 2147483549, .int 2147483543, .int 2147483497] (k % 8) = some (.int c) := by
      have h1 := Int.emod_nonneg k (show (8 : Int) ≠ 0 by decide)
      have h2 := Int.emod_lt_of_pos k (show (0 : Int) < 8 by decide)
      generalize k % 8 = j at h1 h2
      have : j = 0 ∨ j = 1 ∨ j = 2 ∨ j = 3 ∨ j = 4 ∨ j = 5 ∨ j = 6 ∨ j = 7 := by omega
      rcases this with rfl | rfl | rfl | rfl | rfl | rfl | rfl | rfl <;> exact ⟨_, by decide, by decide, rfl⟩
    obtain ⟨c, c0, c1, hc⟩ := pr
    refine sd_cons (s1_if (tm_cmp (nomark _) (em_var 2 rfl (em_bin (em_int (em_int (fd_pow_int ⟨by decide, by decide, by decide⟩ (fd_ge ⟨_, rfl, fun k1 => ?_, fun k1 => sd_nil ?_⟩))))))))
    · refine sd_one (s1_ret (em_lst (am_cons (em_var 2 rfl (am_cons (em_var 4 rfl (am_cons (em_ix (fun _ _ => rfl) (em_var 3 rfl (em_bin (em_var 1 rfl (em_int (fd_mod_int (by decide) (id_list hc (am_nil ⟨small_line (by simp), rfl, FinP.va (ds := [_, _]) (q _ ⟨_, _, _, rfl, ?_, by omega, by omega, c0, c1⟩)⟩)))))))))))))))
      have := of_decide_eq_true k1
      have e : (10 : Int) ^ (18 : Int).toNat = 1000000000000000000 := by decide
      rw [e] at this
      omega
    · exact sd_one (s1_ret (em_lst (am_cons (em_int (am_cons (em_var 4 rfl (am_cons (em_ix (fun _ _ => rfl) (em_var 3 rfl (em_bin (em_var 1 rfl (em_int (fd_mod_int (by decide) (id_list hc (am_nil ⟨small_line (by simp), rfl, FinP.va (ds := [_, _]) (q _ ⟨_, _, _, rfl, by omega, by omega, by omega, c0, c1⟩)⟩)))))))))))))))
  refine sd_cons (s1_if (tm_cmp (nomark _) (em_var 1 rfl (em_callB B.len PySem.boot_len (am_cons (em_var 0 rfl (am_nil (kd_len_script (fd_lt ⟨_, rfl, fun k1 => ?_, fun k1 => sd_nil (main 0)⟩)))))))))
  have k1 := of_decide_eq_true k1
  have hl : k.toNat < ns.length := by omega
  refine sd_one (s1_set 2 sc_law_well.nd (vm_data (em_ix (fun _ _ => rfl) (em_var 0 rfl (em_var 1 rfl (id_script (n := ns[k.toNat]) (atI_of hk0 (List.getElem?_eq_getElem hl)) ?_))))))
  exact main _
def sp_take : DSp := fun ss Q _ => ∃ p ds many, ss = [.mo p (.lst ds), .va (.int many)] ∧ WellOk ds ∧ 0 < many ∧ many ≤ 1000000 ∧ ∀ ds' r, WellOk ds' → 0 ≤ r → r < many → Q false (.int r) [.mo p (.lst ds'), .va (.int many)]
theorem ok_law_take {f : Addr} {fd : FuncData} (F : Fun K "_law_take" "_law_take" s_law_take f fd) (hm : mg "_law_take" = some (.ref f)) (hb : Binds K fd ["well", "many"] []) : Cal P w K mg base "_law_take" 1 ["well", "many"] sp_take := by
  refine fn_ok F hm hb sc_law_take (by rintro ss P W ⟨_, _, _, rfl, _⟩; rfl) ?_
  rintro cdv A outer s H E hr ss Q W ⟨p, ds, many, rfl, ⟨a, b, c, rfl, a0, b0, b1, c0, c1⟩, m0, m1, q⟩
  refine sd_cons (s1_if (tm_cmp (nomark _) (em_ixOwn 0 rfl (fun _ _ => rfl) (em_int ⟨0, _, .int a, rfl, rfl, rfl, em_int (fd_gt ⟨_, rfl, fun k1 => ?_, fun k1 => sd_nil ?_⟩)⟩))))
  · refine sd_cons (s1_set 2 sc_law_take.nd (vm_data (em_bin (em_ixOwn 0 rfl (fun _ _ => rfl) (em_int ⟨0, _, .int a, rfl, rfl, rfl, em_var 1 rfl (fd_mod_int m0 ?_)⟩)))))
    refine sd_cons (s1_setItem 0 rfl (em_bin (em_ixOwn 0 rfl (fun _ _ => rfl) (em_int ⟨0, _, .int a, rfl, rfl, rfl, em_var 1 rfl (fd_div_int ⟨m0, by omega⟩ ⟨rfl, _, rfl, em_int ⟨_, 0, rfl, rfl, by simp, ?_⟩⟩)⟩))))
    refine sd_one (s1_ret (em_var 2 rfl (FinP.mova rfl (q _ _ ⟨a / many, b, c, rfl, Int.ediv_nonneg a0 (by omega), b0, b1, c0, c1⟩ (Int.emod_nonneg _ (by omega)) (Int.emod_lt_of_pos _ m0)))))
  · refine sd_cons (s1_setItem 0 rfl (em_bin (em_bin (em_bin (em_ixOwn 0 rfl (fun _ _ => rfl) (em_int ⟨1, _, .int b, rfl, rfl, rfl, em_int (fd_mul_int (.inl ⟨by omega, by omega⟩) (em_ixOwn 0 rfl (fun _ _ => rfl) (em_int ⟨2, _, .int c, rfl, rfl, rfl, fd_mod_int c0 (em_int (fd_add_int ⟨rfl, _, rfl, em_int ⟨_, 1, rfl, rfl, by simp, ?_⟩⟩))⟩)))⟩))))))
    generalize hx : b * 48271 % c = x
    have x0 : 0 ≤ x := by rw [← hx]; exact Int.emod_nonneg _ (by omega)
    have x1 : x < c := by rw [← hx]; exact Int.emod_lt_of_pos _ c0
    refine sd_one (s1_ret (em_bin (em_bin (em_bin (em_bin (em_ixOwn 0 rfl (fun _ _ => rfl) (em_int ⟨1, _, .int (x + 1), rfl, rfl, rfl, em_ixOwn 0 rfl (fun _ _ => rfl) (em_int ⟨1, _, .int (x + 1), rfl, rfl, rfl, fd_mul_int (.inl ⟨by omega, by omega⟩) (em_int (fd_mod_int (by decide) (em_int (fd_div_int ⟨by decide, by decide⟩ (em_var 1 rfl (fd_mod_int m0 ?_))))))⟩)⟩)))))))
    exact FinP.mova rfl (q _ _ ⟨a, x + 1, c, rfl, a0, by omega, by omega, c0, c1⟩ (Int.emod_nonneg _ (by omega)) (Int.emod_lt_of_pos _ m0))
end

def isInt (d : D) (low high : Int) : Bool := match d with
  | .int i => decide (low ≤ i) && decide (i ≤ high)
  | _ => false
/-- the pieces of a text between ends -/
def cutsL (t : List Nat) (ends : List Int) : List (List Nat) := (List.range (ends.length - 1)).map fun i => cut t (some (ends.getD i 0)) (some (ends.getD (i + 1) 0))
def endsOf (t : List Nat) (sp : List Int) : List Int := [0] ++ sp.mergeSort (fun a b => decide (a ≤ b)) ++ [(t.length : Int)]
structure Tw (t : List Nat) (s1 s2 : List Int) (top : Int) : Prop where
  lo : 2 ≤ t.length
  hi : t.length ≤ 10
  ch : ∀ c ∈ t, 97 ≤ c ∧ c ≤ 104
  n1 : s1.Nodup
  n2 : s2.Nodup
  dj : ∀ x ∈ s1, x ∉ s2
  r1 : ∀ x ∈ s1, 1 ≤ x ∧ x < t.length
  r2 : ∀ x ∈ s2, 1 ≤ x ∧ x < t.length
  ct : (s1.length : Int) + s2.length ≤ top - 2
def abcdefgh : List Nat := [97, 98, 99, 100, 101, 102, 103, 104]
theorem abc_S : Str.ofString "abcdefgh" = S abcdefgh := by decide +kernel
theorem any_intsM (u : List Int) (p : Int) : ((u.map PyData.int).any fun z => PyData.eqv z (.int p)) = decide (p ∈ u) := any_ints u p
theorem shaped_intsL (u : List Int) : SeqAt.shaped (.list (u.map PyData.int)) = true := by
  unfold SeqAt.shaped
  rw [PyData.canLay0, lay_ints, PyData.depth, PySem.W.depth_ints]
  decide
theorem FinP.movas {ds : List D} {p : Addr} {m m' : MO} {Q : Bool → D → List Sl → Prop} {d : D} {ρ : List Sl} (h2 : ρ[0]? = some (.mo p m')) (q : Q false d (.mo p m' :: ds.map .va)) : FinP (.mo p m :: ds.map .va) Q false d ρ := by
  refine ⟨.mo p m' :: ds.map .va, ⟨by simp, fun i s e => ?_⟩, q, fun z => nomatch z⟩
  match i, e with
  | 0, e => cases e; exact .inr ⟨p, m, m', rfl, rfl, h2⟩
  | i + 1, e =>
    rw [List.getElem?_cons_succ] at e ⊢
    refine .inl ⟨e, ?_⟩
    rw [List.getElem?_map] at e
    obtain ⟨d, _, e⟩ := Option.map_eq_some_iff.mp e
    exact ⟨d, e.symm⟩
section
variable {P : Program} {w : World} {K : PySem.W.Frag} {mg : Str → Option Value} {base : Heap}
def sp_is_int : DSp := fun ss Q _ => ∃ d low high, ss = [.va d, .va (.int low), .va (.int high)] ∧ nd d = true ∧ Q false (.bool (isInt d low high)) ss
theorem ok_law_is_int {f : Addr} {fd : FuncData} (B : Bare mg) (F : Fun K "_law_is_int" "_law_is_int" s_law_is_int f fd) (hm : mg "_law_is_int" = some (.ref f)) (hb : Binds K fd ["thing", "low", "high"] []) : Cal P w K mg base "_law_is_int" 1 ["thing", "low", "high"] sp_is_int := by
  refine fn_ok F hm hb sc_law_is_int (by rintro ss P W ⟨_, _, _, rfl, _⟩; rfl) ?_
  rintro cdv A outer s H E hr ss Q W ⟨d, low, high, rfl, hn, q⟩
  have no : isInt d low high = false → FinP [.va d, .va (.int low), .va (.int high)] Q false (.bool false) (startS N_law_is_int.length [.va d, .va (.int low), .va (.int high)]) := fun e => FinP.va (ds := [d, .int low, .int high]) (by rw [e] at q; exact q)
  refine sd_one (s1_ret (em_and (em_isi (.inl rfl) B.isinstance_ B.int_ boot_int (em_var 0 rfl ⟨hn, _, rfl, fun k1 => ?_, fun k1 => no (by cases d <;> first | rfl | (exact absurd k1 (by simp [isTy, tyD])))⟩))))
  refine em_and (em_not (em_isi (.inr (.inl rfl)) B.isinstance_ B.bool_ boot_bool (em_var 0 rfl ⟨hn, _, rfl, _, rfl, fun k2 => ?_, fun k2 => ?_⟩)))
  · cases d with
    | int i =>
      refine em_and (em_cmp (nomark _) (em_var 1 rfl (em_var 0 rfl (fd_le ⟨_, rfl, fun k3 => ?_, fun k3 => ?_⟩))))
      · refine em_one (em_cmp (nomark _) (em_var 0 rfl (em_var 2 rfl (fd_le (FinP.va (ds := [.int i, .int low, .int high]) ?_)))))
        have e : isInt (.int i) low high = decide (i ≤ high) := by
          show (decide (low ≤ i) && decide (i ≤ high)) = _
          rw [k3, Bool.true_and]
        rw [e] at q
        exact q
      · exact no (by show (decide (low ≤ i) && decide (i ≤ high)) = false; rw [k3, Bool.false_and])
    | _ => simp [isTy, tyD] at k1 k2
  · exact no (by cases d <;> first | rfl | (exact absurd k2 (by simp [isTy, tyD])))
def sp_signs : DSp := fun ss Q _ => ∃ p ds many kinds, ss = [.mo p (.lst ds), .va (.int many), .va (.int kinds)] ∧ WellOk ds ∧ 0 ≤ many ∧ many ≤ 1000 ∧ 1 ≤ kinds ∧ kinds ≤ 8 ∧ ∀ ds' t, WellOk ds' → (t.length : Int) = many → (∀ c ∈ t, 97 ≤ c ∧ c ≤ 104) → Q false (tx t) [.mo p (.lst ds'), .va (.int many), .va (.int kinds)]
theorem ok_law_signs {f : Addr} {fd : FuncData} (B : Bare mg) (c1 : Cal P w K mg base "_law_take" 1 ["well", "many"] sp_take) (F : Fun K "_law_signs" "_law_signs" s_law_signs f fd) (hm : mg "_law_signs" = some (.ref f)) (hb : Binds K fd ["well", "many", "kinds"] []) : Cal P w K mg base "_law_signs" 2 ["well", "many", "kinds"] sp_signs := by
  refine fn_ok F hm hb sc_law_signs (by rintro ss P W ⟨_, _, _, _, rfl, _⟩; rfl) ?_
  rintro cdv A outer s H E hr ss Q W ⟨p, ds, many, kinds, rfl, hw, m0, m1, k0, k1, q⟩
  refine sd_one (s1_retD (em_meth PySem.F.slot_str_join PySem.F.type_str_join (em_str ⟨_, rfl, am_cons ?_⟩)))
  refine em_lc (.nm 3) [("turn", 3)] rfl sc_law_signs.nd (blkOk_by (N := N_law_signs) (sc := defScope s_law_signs) (by decide +kernel)) (fun _ _ _ _ _ => pg_nm sc_law_signs.nd) (by decide) ?_
  refine im_range1 B.range_ (em_var 1 rfl ⟨many, rfl, by omega, by omega, fun i ys ρ => ∃ ds' t, WellOk ds' ∧ t.length = i ∧ (∀ c ∈ t, 97 ≤ c ∧ c ≤ 104) ∧ ys = t.map (fun c => PyData.str (S [c])) ∧ ρ = [.mo p (.lst ds'), .va (.int many), .va (.int kinds), .no], ⟨ds, [], hw, rfl, fun _ m => absurd m List.not_mem_nil, rfl, rfl⟩, ?_, ?_⟩)
  · rintro i d ys ρ2 hd ⟨ds', t, hw', hl, hc, rfl, rfl⟩
    have hi : i < many.toNat := by
      have := (List.getElem?_eq_some_iff.mp hd).1
      simpa [rngD] using this
    refine ⟨_, rfl, fun _ _ _ _ _ => ⟨fun _ _ _ _ _ _ => ?_, fun z => Bool.noConfusion z⟩⟩
    refine em_ix (fun _ _ => rfl) (em_str (em_callM c1 (hr.mono (by decide)) (zm_s 0 rfl (zm_d (em_var 2 rfl (zm_nil ⟨⟨by simp [slotsOf], fun j hj => ?_⟩, p, ds', kinds, rfl, hw', by omega, by omega, fun ds2 r hw2 r0 r1 => ?_⟩))))))
    · have e : j = 0 := by simpa [slotsOf] using hj
      subst e
      exact ⟨p, _, rfl⟩
    · have hr8 : r.toNat < abcdefgh.length := by
        show r.toNat < 8
        omega
      have hcc : 97 ≤ abcdefgh[r.toNat] ∧ abcdefgh[r.toNat] ≤ 104 := by
        have : ∀ c ∈ abcdefgh, 97 ≤ c ∧ c ≤ 104 := by decide
        exact this _ (List.getElem_mem hr8)
      rw [abc_S]
      refine id_str (c := abcdefgh[r.toNat]) (by rw [S_len]; exact small_line (by decide)) (atI_of r0 ?_) ⟨rfl, ?_, ds2, t ++ [abcdefgh[r.toNat]], hw2, by simp [hl], fun c m => ?_, by simp [S], rfl⟩
      · show (S abcdefgh).cps.toList[r.toNat]? = _
        simp [S, List.getElem?_eq_getElem hr8]
      · rw [List.length_map, sizeLine_eq]
        omega
      · rcases List.mem_append.mp m with m | m
        · exact hc c m
        · rw [List.mem_singleton.mp m]
          exact hcc
  · rintro ys ρ2 ⟨ds', t, hw', hl, hc, rfl, rfl⟩
    have hl2 : (t.length : Int) = many := by
      rw [hl]
      simp [rngD]
      omega
    refine am_nil ?_
    have e1 : t.map (fun c => PyData.str (S [c])) = ((t.map fun c => [c]).map S).map PyData.str := by simp [Function.comp_def]
    rw [e1]
    refine md_join ?_ ?_
    · have e2 : (((t.map fun c => [c]).map S).map (·.length)) = t.map fun _ => 1 := by
        rw [List.map_map, List.map_map]
        refine List.map_congr_left fun c _ => ?_
        exact S_len [c]
      rw [e2, List.length_map, List.length_map, show (Str.ofString "").length = 0 from rfl]
      have : (t.map fun _ => 1).sum = t.length := by
        clear hl hc hl2 e1 e2
        induction t with
        | nil => rfl
        | cons c t ih => rw [List.map_cons, List.sum_cons, ih, List.length_cons]; omega
      rw [this]
      omega
    · rw [show Str.ofString "" = S [] from rfl, join0]
      have e3 : (t.map fun c => [c]).flatten = t := by
        clear hl hc hl2 e1
        induction t with
        | nil => rfl
        | cons c t ih => rw [List.map_cons, List.flatten_cons, ih]; rfl
      rw [e3]
      exact FinP.movas (ds := [.int many, .int kinds]) rfl (q _ _ hw' hl2 hc)
def sp_cut : DSp := fun ss Q _ => ∃ t sp, ss = [.va (tx t), .va (.list (sp.map .int))] ∧ t.length ≤ 1000 ∧ sp.length ≤ 1000 ∧ Q true (.list ((cutsL t (endsOf t sp)).map tx)) ss
theorem ok_law_cut {f : Addr} {fd : FuncData} (B : Bare mg) (F : Fun K "_law_cut" "_law_cut" s_law_cut f fd) (hm : mg "_law_cut" = some (.ref f)) (hb : Binds K fd ["text", "spots"] []) : Cal P w K mg base "_law_cut" 1 ["text", "spots"] sp_cut := by
  refine fn_ok F hm hb sc_law_cut (by rintro ss P W ⟨_, _, rfl, _⟩; rfl) ?_
  rintro cdv A outer s H E hr ss Q W ⟨t, sp, rfl, ht, hs, q⟩
  have lt : (S t).length ≤ sizeLine := by rw [S_len]; exact small_line (by omega)
  refine sd_cons (s1_set 2 sc_law_cut.nd (vm_data (em_bin (em_bin (em_lst (am_cons (em_int (am_nil ⟨small_line (by simp), rfl, em_callB B.sorted_ PyProof.Rows.boot_sorted (am_cons (em_var 1 rfl (am_nil (kd_sorted_list hr.units (sorts_int (small_line (by omega))) (fd_add_list (small_line (by simp; omega)) ?_)))))⟩))))))))
  refine em_lst (am_cons (em_callB B.len PySem.boot_len (am_cons (em_var 0 rfl (am_nil (kd_len_str lt (am_nil ⟨small_line (by simp), rfl, fd_add_list (small_line (by simp; omega)) ?_⟩)))))))
  have e1 : [PyData.int 0] ++ (sp.mergeSort (PySem.W.dataLe false PyData.int)).map PyData.int ++ [PyData.int ((S t).length : Nat)] = (endsOf t sp).map PyData.int := by
    unfold endsOf
    rw [dle_int, S_len, List.map_append, List.map_append]
    rfl
  rw [e1]
  have le : (endsOf t sp).length = sp.length + 2 := by unfold endsOf; simp
  refine sd_one (s1_ret (em_fm (.tp [.nm 3, .nm 4]) [("one", 3), ("other", 4)] rfl sc_law_cut.nd (blkOk_by (N := N_law_cut) (sc := defScope s_law_cut) (by decide +kernel)) (fun _ _ _ _ _ => pg_tp rfl (pgs_1 (pg_nm sc_law_cut.nd) (pgs_1 (pg_nm sc_law_cut.nd) pgs_0))) (by decide)
    (.map (fun i : Nat => .tuple [((endsOf t sp).map PyData.int).getD i .none, ((cut ((endsOf t sp).map PyData.int) (some 1) none)).getD i .none]) (fun i => tx (cut t (some ((endsOf t sp).getD i 0)) (some ((endsOf t sp).getD (i + 1) 0)))) (im_zipL B.zip_ (am_cons (em_var 2 rfl (am_cons (em_sl (em_var 2 rfl (om_some (em_int ⟨1, rfl, om_none (ld_list (am_nil ⟨_, _, rfl, List.range (min ((endsOf t sp).map PyData.int).length (cut ((endsOf t sp).map PyData.int) (some 1) none).length), rfl, ?_, ?_, ?_⟩))⟩)))))))))))
  · rw [List.length_range]
    refine small_line ?_
    rw [List.length_map]
    omega
  · intro i hi
    have hi := List.mem_range.mp hi
    have ec : cut ((endsOf t sp).map PyData.int) (some 1) none = ((endsOf t sp).map PyData.int).drop 1 := cut_drop _ 1
    rw [ec, List.length_map, List.length_drop, List.length_map] at hi
    have g1 : ((endsOf t sp).map PyData.int).getD i PyData.none = .int ((endsOf t sp).getD i 0) := by
      rw [List.getD_eq_getElem?_getD, List.getD_eq_getElem?_getD, List.getElem?_map, List.getElem?_eq_getElem (by omega : i < (endsOf t sp).length)]
      rfl
    have g2 : (cut ((endsOf t sp).map PyData.int) (some 1) none).getD i PyData.none = .int ((endsOf t sp).getD (i + 1) 0) := by
      rw [ec, List.getD_eq_getElem?_getD, List.getD_eq_getElem?_getD, List.getElem?_drop, List.getElem?_map, Nat.add_comm 1 i, List.getElem?_eq_getElem (by omega : i + 1 < (endsOf t sp).length)]
      rfl
    rw [g1, g2]
    refine ⟨_, rfl, fun _ _ _ _ _ => em_sl (em_var 0 rfl (om_some (em_var 3 rfl ⟨_, rfl, om_some (em_var 4 rfl ⟨_, rfl, ld_str lt ⟨rfl, ?_⟩⟩)⟩)))⟩
    rw [cutS_S]
  · refine FinP.va (ds := [_, _]) ?_
    have e2 : (List.range (min ((endsOf t sp).map PyData.int).length (cut ((endsOf t sp).map PyData.int) (some 1) none).length)).map (fun i => tx (cut t (some ((endsOf t sp).getD i 0)) (some ((endsOf t sp).getD (i + 1) 0)))) = (cutsL t (endsOf t sp)).map tx := by
      have ec : cut ((endsOf t sp).map PyData.int) (some 1) none = ((endsOf t sp).map PyData.int).drop 1 := cut_drop _ 1
      unfold cutsL
      rw [ec, List.length_map, List.length_drop, List.length_map, List.map_map, Nat.min_eq_right (by omega)]
      rfl
    rw [e2]
    exact q
end

theorem Tw.add1 {t : List Nat} {s1 s2 : List Int} {top x : Int} (w : Tw t s1 s2 top) (n1 : x ∉ s1) (n2 : x ∉ s2) (l : 1 ≤ x) (r : x < t.length) : Tw t (s1 ++ [x]) s2 (top + 1) := by
  refine ⟨w.lo, w.hi, w.ch, ?_, w.n2, fun y m => ?_, fun y m => ?_, w.r2, ?_⟩
  · rw [List.nodup_append]
    exact ⟨w.n1, List.pairwise_singleton _ _, fun a ha b hb e => n1 (by rw [← List.mem_singleton.mp hb, ← e]; exact ha)⟩
  · rcases List.mem_append.mp m with m | m
    · exact w.dj y m
    · rw [List.mem_singleton.mp m]; exact n2
  · rcases List.mem_append.mp m with m | m
    · exact w.r1 y m
    · rw [List.mem_singleton.mp m]; exact ⟨l, r⟩
  · have := w.ct
    rw [List.length_append]
    simp only [List.length_cons, List.length_nil]
    omega
theorem Tw.add2 {t : List Nat} {s1 s2 : List Int} {top x : Int} (w : Tw t s1 s2 top) (n1 : x ∉ s1) (n2 : x ∉ s2) (l : 1 ≤ x) (r : x < t.length) : Tw t s1 (s2 ++ [x]) (top + 1) := by
  refine ⟨w.lo, w.hi, w.ch, w.n1, ?_, fun y m m2 => ?_, w.r1, fun y m => ?_, ?_⟩
  · rw [List.nodup_append]
    exact ⟨w.n2, List.pairwise_singleton _ _, fun a ha b hb e => n2 (by rw [← List.mem_singleton.mp hb, ← e]; exact ha)⟩
  · rcases List.mem_append.mp m2 with m2 | m2
    · exact w.dj y m m2
    · rw [List.mem_singleton.mp m2] at m; exact n1 m
  · rcases List.mem_append.mp m with m | m
    · exact w.r2 y m
    · rw [List.mem_singleton.mp m]; exact ⟨l, r⟩
  · have := w.ct
    rw [List.length_append]
    simp only [List.length_cons, List.length_nil]
    omega
theorem Tw.more {t : List Nat} {s1 s2 : List Int} {a b : Int} (w : Tw t s1 s2 a) (h : a ≤ b) : Tw t s1 s2 b := ⟨w.lo, w.hi, w.ch, w.n1, w.n2, w.dj, w.r1, w.r2, by have := w.ct; omega⟩
section
variable {P : Program} {w : World} {K : PySem.W.Frag} {mg : Str → Option Value} {base : Heap}
def twD (t : List Nat) (s1 s2 : List Int) : D := .list [tx t, .list ((cutsL t (endsOf t s1)).map tx), .list ((cutsL t (endsOf t s2)).map tx)]
def sp_twins : DSp := fun ss Q _ => ∃ p ds top, ss = [.mo p (.lst ds), .va (.int top)] ∧ WellOk ds ∧ 2 ≤ top ∧ top ≤ 8 ∧ ∀ ds' t s1 s2, WellOk ds' → Tw t s1 s2 top → Q false (twD t s1 s2) [.mo p (.lst ds'), .va (.int top)]
set_option maxHeartbeats 1000000 in
theorem ok_law_twins {f : Addr} {fd : FuncData} (B : Bare mg) (c1 : Cal P w K mg base "_law_take" 1 ["well", "many"] sp_take) (c2 : Cal P w K mg base "_law_signs" 2 ["well", "many", "kinds"] sp_signs) (c3 : Cal P w K mg base "_law_cut" 1 ["text", "spots"] sp_cut) (F : Fun K "_law_twins" "_law_twins" s_law_twins f fd) (hm : mg "_law_twins" = some (.ref f)) (hb : Binds K fd ["well", "top"] []) : Cal P w K mg base "_law_twins" 3 ["well", "top"] sp_twins := by
  refine fn_ok F hm hb sc_law_twins (by rintro ss P W ⟨_, _, _, rfl, _⟩; rfl) ?_
  rintro cdv A outer s H E hr ss Q W ⟨p, ds, top, rfl, hw, t2, t8, q⟩
  have gd : ∀ {ρ : List Sl} {m : MO}, ρ[0]? = some (.mo p m) → ∀ as : List Arg, slotsOf as = [0] → GoodArgs ρ as := fun h as e => ⟨by rw [e]; simp, fun j hj => by rw [e] at hj; rw [List.mem_singleton.mp hj]; exact ⟨p, _, h⟩⟩
  refine sd_cons (s1_set 2 sc_law_twins.nd (vm_data (em_bin (em_int (em_callM c1 (hr.mono (by decide)) (zm_s 0 rfl (zm_d (em_ix (fun _ _ => rfl) (em_lst (am_cons (em_int (am_cons (em_int (am_nil ⟨small_line (by simp), rfl, em_callM c1 (hr.mono (by decide)) (zm_s 0 rfl (zm_d (em_int (zm_nil ⟨gd rfl _ rfl, p, ds, 2, rfl, hw, by decide, by decide, fun ds2 r hw2 r0 r1 => ?_⟩))))⟩))))))))))))))
  obtain ⟨m, hm1, hm2, hm3⟩ : ∃ m : Int, 1 ≤ m ∧ m ≤ 9 ∧ atI [PyData.int 5, .int 9] r = some (.int m) := by
    have : r = 0 ∨ r = 1 := by omega
    rcases this with rfl | rfl
    · exact ⟨5, by decide, by decide, rfl⟩
    · exact ⟨9, by decide, by decide, rfl⟩
  refine id_list hm3 (zm_nil ⟨gd rfl _ rfl, p, ds2, m, rfl, hw2, by omega, by omega, fun ds3 r2 hw3 r20 r21 => fd_add_int ?_⟩)
  refine sd_re (ρ' := [.mo p (.lst ds3), .va (.int top), .va (.int (2 + r2)), .no, .no, .no, .no, .no]) rfl ?_
  refine sd_cons (s1_set 3 sc_law_twins.nd (vm_data (em_callM c2 (hr.mono (by decide)) (zm_s 0 rfl (zm_d (em_var 2 rfl (zm_d (em_ix (fun _ _ => rfl) (em_lst (am_cons (em_int (am_cons (em_int (am_cons (em_int (am_cons (em_int (am_nil ⟨small_line (by simp), rfl, em_callM c1 (hr.mono (by decide)) (zm_s 0 rfl (zm_d (em_int (zm_nil ⟨gd rfl _ rfl, p, ds3, 4, rfl, hw3, by decide, by decide, fun ds4 r3 hw4 r30 r31 => ?_⟩))))⟩))))))))))))))))))
  obtain ⟨m4, hm4, hm5, hm6⟩ : ∃ m : Int, 1 ≤ m ∧ m ≤ 8 ∧ atI [PyData.int 1, .int 2, .int 3, .int 8] r3 = some (.int m) := by
    have : r3 = 0 ∨ r3 = 1 ∨ r3 = 2 ∨ r3 = 3 := by omega
    rcases this with rfl | rfl | rfl | rfl
    · exact ⟨1, by decide, by decide, rfl⟩
    · exact ⟨2, by decide, by decide, rfl⟩
    · exact ⟨3, by decide, by decide, rfl⟩
    · exact ⟨8, by decide, by decide, rfl⟩
  refine id_list hm6 (zm_nil ⟨gd rfl _ rfl, p, ds4, 2 + r2, m4, rfl, hw4, by omega, by omega, hm4, hm5, fun ds5 t hw5 tl tc => ?_⟩)
  refine sd_re (ρ' := [.mo p (.lst ds5), .va (.int top), .va (.int (2 + r2)), .va (tx t), .no, .no, .no, .no]) rfl ?_
  refine sd_cons (s1_set 4 sc_law_twins.nd (vm_LL fun p4 q1 q2 => ?_))
  refine sd_cons (s1_for (.nm 5) (passes_of rfl) rfl (pg_nm sc_law_twins.nd) (im_range1 B.range_ (em_callM c1 (hr.mono (by decide)) (zm_s 0 rfl (zm_d (em_bin (em_var 1 rfl (em_int (fd_sub_int (zm_nil ⟨gd rfl _ rfl, p, ds5, top - 1, rfl, hw5, by omega, by omega, fun ds6 n hw6 n0 n1 => ⟨n, rfl, by omega, by omega, ?_⟩⟩))))))))))
  have tl2 : 2 ≤ t.length ∧ t.length ≤ 10 := by omega
  have lt : (S t).length ≤ sizeLine := by rw [S_len]; exact small_line (by omega)
  refine ⟨fun i ρ => ∃ ds' s1 s2 s5 s6 s7, WellOk ds' ∧ Tw t s1 s2 (2 + (i : Int)) ∧ ρ = [.mo p (.lst ds'), .va (.int top), .va (.int (2 + r2)), .va (tx t), .ll p4 [q1, q2] [.lst (s1.map .int), .lst (s2.map .int)], s5, s6, s7], ⟨ds6, [], [], _, _, _, hw6, ⟨tl2.1, tl2.2, tc, List.nodup_nil, List.nodup_nil, fun _ m => absurd m List.not_mem_nil, fun _ m => absurd m List.not_mem_nil, fun _ m => absurd m List.not_mem_nil, by simp⟩, rfl⟩, ?_, ?_⟩
  · rintro i d ρ2 hd ⟨ds', s1, s2, s5, s6, s7, hw', tw, rfl⟩
    have hi : i < n.toNat := by
      have := (List.getElem?_eq_some_iff.mp hd).1
      simpa [rngD] using this
    have tct := tw.ct
    refine ⟨_, rfl, ?_⟩
    refine sd_cons (s1_par2 6 7 rfl sc_law_twins.nd (lm_cons (vm_data (em_bin (em_int (em_callM c1 (hr.mono (by decide)) (zm_s 0 rfl (zm_d (em_bin (em_callB B.len PySem.boot_len (am_cons (em_var 3 rfl (am_nil (kd_len_str lt (em_int (fd_sub_int (zm_nil ⟨gd rfl _ rfl, p, ds', ((S t).length : Int) - 1, rfl, hw', ?_, ?_, fun ds7 x hw7 x0 x1 => fd_add_int (lm_cons (vm_data (em_callM c1 (hr.mono (by decide)) (zm_s 0 rfl (zm_d (em_int (zm_nil ⟨gd rfl _ rfl, p, ds7, 2, rfl, hw7, by decide, by decide, fun ds8 k hw8 k0 k1 => lm_nil ⟨_, _, rfl, ?_⟩⟩)))))))⟩)))))))))))))))))
    · rw [S_len]; omega
    · rw [S_len]; omega
    rw [S_len] at x1
    refine sd_re (ρ' := [.mo p (.lst ds8), .va (.int top), .va (.int (2 + r2)), .va (tx t), .ll p4 [q1, q2] [.lst (s1.map .int), .lst (s2.map .int)], .va d, .va (.int (1 + x)), .va (.int k)]) rfl ?_
    refine sd_one (s1_if (tm_viewLL 4 rfl (tm_cmp rfl (em_var 6 rfl (em_bin (em_ix (fun _ _ => rfl) (em_var 4 rfl (em_int (id_list (d := .list (s1.map .int)) rfl (em_ix (fun _ _ => rfl) (em_var 4 rfl (em_int (id_list (d := .list (s2.map .int)) rfl (fd_add_list (small_line (by simp; omega)) ?_))))))))))))))
    rw [← List.map_append]
    refine fd_notIn_list (room65 hr) (shaped_int _) (shaped_intsL _) ⟨_, rfl, fun z => ?_, fun z => ?_⟩
    · rw [any_ints] at z
      have nz : (1 + x) ∉ s1 ++ s2 := by simpa using z
      have nz1 : (1 + x) ∉ s1 := fun m => nz (List.mem_append_left _ m)
      have nz2 : (1 + x) ∉ s2 := fun m => nz (List.mem_append_right _ m)
      refine sd_one (s1_expr (em_appendLL 4 rfl (fun _ _ => rfl) (em_var 7 rfl ⟨decide (k = 1), ?_, ⟨_, _, rfl⟩, em_var 6 rfl ⟨_, _, rfl, rfl, ?_, ?_, ?_⟩⟩)))
      · have : k = 0 ∨ k = 1 := by omega
        rcases this with rfl | rfl <;> rfl
      · rw [List.length_map, sizeLine_eq]; omega
      · rw [List.length_map, sizeLine_eq]; omega
      · have e2 : (2 : Int) + ((i + 1 : Nat) : Int) = 2 + (i : Int) + 1 := by omega
        have : k = 0 ∨ k = 1 := by omega
        rcases this with rfl | rfl
        · refine ⟨ds8, s1 ++ [1 + x], s2, .va d, .va (.int (1 + x)), .va (.int 0), hw8, by rw [e2]; exact tw.add1 nz1 nz2 (by omega) (by omega), ?_⟩
          rw [List.map_append]
          rfl
        · refine ⟨ds8, s1, s2 ++ [1 + x], .va d, .va (.int (1 + x)), .va (.int 1), hw8, by rw [e2]; exact tw.add2 nz1 nz2 (by omega) (by omega), ?_⟩
          rw [List.map_append]
          rfl
    · exact sd_nil ⟨ds8, s1, s2, .va d, .va (.int (1 + x)), .va (.int k), hw8, tw.more (by omega), rfl⟩
  · rintro ρ2 ⟨ds', s1, s2, s5, s6, s7, hw', tw, rfl⟩
    have tct := tw.ct
    have en : ((rngD 0 n.toNat).length : Int) = n := by
      simp [rngD]
      omega
    rw [en] at tw tct
    refine sd_freezeLL 4 rfl (sd_one (s1_retD (em_lst (am_cons (em_var 3 rfl (am_cons (em_call c3 (hr.mono (by decide)) (am_cons (em_var 3 rfl (am_cons (em_ix (fun _ _ => rfl) (em_var 4 rfl (em_int (id_list (d := .list (s1.map .int)) rfl (am_nil ⟨W0, fun _ z => z.elim, t, s1, rfl, by omega, by omega, ?_⟩)))))))))))))))
    refine am_cons (em_call c3 (hr.mono (by decide)) (am_cons (em_var 3 rfl (am_cons (em_ix (fun _ _ => rfl) (em_var 4 rfl (em_int (id_list (d := .list (s2.map .int)) rfl (am_nil ⟨W0, fun _ z => z.elim, t, s2, rfl, by omega, by omega, am_nil ⟨small_line (by simp), rfl, ?_⟩⟩)))))))))
    exact FinP.movas (ds := [.int top]) rfl (q ds' t s1 s2 hw' (tw.more (by omega)))
def sp_said : DSp := fun ss P _ => ∃ h p, ss = [.va (hpD h), .va (plD p)] ∧ Small h ∧ PlacesOk h p ∧ p.length ≤ 1000 ∧ P false (tx (joinT h p)) ss
/-- how far from the begin the inner ends are -/
def endsAt (h : List (List Nat)) (p : List Int) : List Int := (List.range (p.length - 1)).map fun i => ((joinT h (p.take (i + 1))).length : Int)
def sp_ends : DSp := fun ss P _ => ∃ h p, ss = [.va (hpD h), .va (plD p)] ∧ Small h ∧ PlacesOk h p ∧ p.length ≤ 1000 ∧ P false (.list ((endsAt h p).map .int)) ss
end

/-! ### the words of a refusal -/
def wdL : List Str := ["heap", "standing", "laying", "length", "full", "own", "value"].map Str.ofString
theorem split_words : Txt.split (Str.ofString "heap standing laying length full own value") (Str.ofString " ") = wdL := by decide +kernel
/-- the refusals of the program: their classes -/
structure Errs (K : PySem.W.Frag) (mg : Str → Option Value) (a : Nat → Addr) (t : Addr) : Prop where
  m0 : mg "NoHeap" = some (.ref (a 0))
  m1 : mg "NoStanding" = some (.ref (a 1))
  m2 : mg "NoLaying" = some (.ref (a 2))
  m3 : mg "NoLength" = some (.ref (a 3))
  m4 : mg "Full" = some (.ref (a 4))
  mt : mg "TornError" = some (.ref t)
  mv : mg "ValueError" = none
  ec : ∀ c, c < 5 → ExcC K (a c)
  kit : ∀ c, c < 5 → ∀ i, i < 5 → PySem.W.kitOne K (.ref (a c)) (.ref (a i)) = some (decide (c = i))
  kt : ∀ c, c < 5 → PySem.W.kitOne K (.ref (a c)) (.ref t) = some true
  kv : ∀ c, c < 5 → PySem.W.kitOne K (.ref (a c)) (.type "ValueError") = some true
def wdD (c : Nat) : D := .str (wdL.getD c ⟨#[]⟩)
def bsK (c : Nat) : List Bool := [decide (c = 0), decide (c = 1), decide (c = 2), decide (c = 3), decide (c = 4), true, true]
def selK (bs : List Bool) (i : Nat) : List D := ((wdL.zip bs).take i).filterMap fun x => if x.2 = true then some (PyData.str x.1) else none
theorem selK_succ {bs : List Bool} {i : Nat} {w : Str} {b : Bool} (hw : wdL[i]? = some w) (hb : bs[i]? = some b) : selK bs (i + 1) = selK bs i ++ if b = true then [.str w] else [] := by
  unfold selK
  have : (wdL.zip bs)[i]? = some (w, b) := List.getElem?_zip_eq_some.mpr ⟨hw, hb⟩
  rw [List.take_add_one, this, List.filterMap_append]
  congr 1
  cases b <;> rfl
theorem selK_all {c : Nat} (hc : c < 5) : selK (bsK c) 7 = [wdD c, .str "own", .str "value"] := by
  have : c = 0 ∨ c = 1 ∨ c = 2 ∨ c = 3 ∨ c = 4 := by omega
  rcases this with rfl | rfl | rfl | rfl | rfl <;> rfl
theorem roomH_units {k : Nat} {A : Around} (r : L2H.RoomH k A) : A.units + 64 < cLine := by have := r.un; omega
theorem boot_ValueError : bootBuiltins "ValueError" = some (.type "ValueError") := by decide +kernel
section
variable {P : Program} {w : World} {K : PySem.W.Frag} {mg : Str → Option Value} {base : Heap} {ea : Nat → Addr} {et : Addr}
def sp_kinds (ea : Nat → Addr) : Addr × Obj → (Bool → D → Prop) → Prop := fun p Q => ∃ c, c < 5 ∧ Zc (.ref (ea c)) none p.2 ∧ (∃ vs, p.2.data = .fields vs) ∧ Q true (.list [wdD c, .str "own", .str "value"])
theorem ok_law_kinds {f : Addr} {fd : FuncData} (B : Bare mg) (Er : Errs K mg ea et) (F : Fun K "_law_kinds" "_law_kinds" s_law_kinds f fd) (hm : mg "_law_kinds" = some (.ref f)) (hb : Binds K fd ["e"] []) : CalE P w K mg base "_law_kinds" 1 (sp_kinds ea) := by
  refine fnE_ok F hm hb sc_law_kinds ?_
  rintro cdv A outer s H E p hot hr Q ⟨c, hc, hz, hf, q⟩
  have hp : p ∈ [p] := List.mem_singleton.mpr rfl
  have Ec := Er.ec c hc
  refine sd_cons (s1_set 1 sc_law_kinds.nd (vm_data (em_lst (am_cons (em_isP 0 hp Ec hz hf B.isinstance_ Er.m0 (Er.kit c hc 0 (by decide)) rfl (am_cons (em_isP 0 hp Ec hz hf B.isinstance_ Er.m1 (Er.kit c hc 1 (by decide)) rfl (am_cons (em_isP 0 hp Ec hz hf B.isinstance_ Er.m2 (Er.kit c hc 2 (by decide)) rfl (am_cons (em_isP 0 hp Ec hz hf B.isinstance_ Er.m3 (Er.kit c hc 3 (by decide)) rfl (am_nil ⟨small_line (by simp), rfl, ?_⟩))))))))))))
  refine sd_cons (s1_set 1 sc_law_kinds.nd (vm_data (em_bin (em_var 1 rfl (em_lst (am_cons (em_isP 0 hp Ec hz hf B.isinstance_ Er.m4 (Er.kit c hc 4 (by decide)) rfl (am_cons (em_isP 0 hp Ec hz hf B.isinstance_ Er.mt (Er.kt c hc) rfl (am_cons (em_isPT 0 hp Ec hz hf B.isinstance_ Er.mv boot_ValueError (Er.kv c hc) rfl (am_nil ⟨small_line (by simp), rfl, fd_add_list (small_line (by simp)) ?_⟩))))))))))))
  refine sd_cons (s1_set 2 sc_law_kinds.nd (vm_data (em_str ?_)))
  refine sd_re (ρ' := [.rw (.ref p.1), .va (.list ((bsK c).map .bool)), .va (.str "heap standing laying length full own value"), .no, .no]) rfl ?_
  refine sd_one (s1_ret (em_lcH (.tp [.nm 3, .nm 4]) [("word", 3), ("good", 4)] hot hp sc_law_kinds.nd (blkOk_by (N := N_law_kinds) (sc := defScope s_law_kinds) (by decide +kernel)) (fun _ _ _ _ _ => pg_tpH (hot_bk hot) (pgs_1 (pg_nm sc_law_kinds.nd) (pgs_1 (pg_nm sc_law_kinds.nd) pgs_0))) (by decide) (im_zipH B.zip_ (am_cons (em_meth PySem.F.slot_str_split PySem.F.type_str_split (em_var 2 rfl ⟨_, rfl, am_cons (em_str (am_nil (md_split (by decide +kernel) (small_line (by decide +kernel)) (am_cons (em_var 1 rfl (am_nil ⟨_, _, rfl, ?_, ?_⟩))))))⟩))))))
  · rw [split_words, List.length_map, List.length_map]
    exact Nat.le_refl 7
  rw [split_words]
  refine ⟨fun i ys ρ => ρ = [.rw (.ref p.1), .va (.list ((bsK c).map .bool)), .va (.str "heap standing laying length full own value"), .no, .no] ∧ ys = selK (bsK c) i ∧ ys.length ≤ i, ⟨rfl, rfl, Nat.le_refl _⟩, ?_, ?_⟩
  · rintro i d ys ρ2 hd ⟨rfl, rfl, li⟩
    have hi : i < 7 := by
      have := (List.getElem?_eq_some_iff.mp hd).1
      rw [zipD_len, List.length_map, List.length_map] at this
      exact this
    obtain ⟨w0, hw⟩ : ∃ w0, wdL[i]? = some w0 := ⟨_, List.getElem?_eq_getElem (show i < wdL.length from hi)⟩
    obtain ⟨b0, hb0⟩ : ∃ b0, (bsK c)[i]? = some b0 := ⟨_, List.getElem?_eq_getElem (show i < (bsK c).length from hi)⟩
    have e := zipD_at (ds := wdL.map PyData.str) (es := (bsK c).map PyData.bool) (i := i) (by rw [List.getElem?_map, hw]; rfl) (by rw [List.getElem?_map, hb0]; rfl)
    rw [e] at hd
    cases hd
    have es := selK_succ hw hb0
    refine ⟨_, rfl, fun _ _ _ _ _ => tm_val (em_var 4 rfl ⟨b0, rfl, fun k => fun _ _ _ _ _ => em_var 3 rfl ⟨rfl, ?_, rfl, ?_, ?_⟩, fun k => ⟨rfl, ?_, by omega⟩⟩)⟩
    · rw [sizeLine_eq]; omega
    · rw [es, k]; rfl
    · rw [List.length_append]; simp; omega
    · rw [es, k]; simp
  · rintro ys ρ2 ⟨rfl, rfl, li⟩
    have e7 : (zipD (wdL.map PyData.str) ((bsK c).map PyData.bool)).length = 7 := by rw [zipD_len, List.length_map, List.length_map]; rfl
    rw [e7, selK_all hc]
    exact q
def sp_refusal (ea : Nat → Addr) : Addr × Obj → (Bool → D → Prop) → Prop := fun p Q => ∃ c, c < 5 ∧ Zc (.ref (ea c)) none p.2 ∧ (∃ vs, p.2.data = .fields vs) ∧ Q false (wdD c)
theorem ok_law_refusal {f : Addr} {fd : FuncData} (B : Bare mg) (c1 : CalE P w K mg base "_law_kinds" 1 (sp_kinds ea)) (F : Fun K "_law_refusal" "_law_refusal" s_law_refusal f fd) (hm : mg "_law_refusal" = some (.ref f)) (hb : Binds K fd ["e"] []) : CalE P w K mg base "_law_refusal" 2 (sp_refusal ea) := by
  refine fnE_ok F hm hb sc_law_refusal ?_
  rintro cdv A outer s H E p hot hr Q ⟨c, hc, hz, hf, q⟩
  have hp : p ∈ [p] := List.mem_singleton.mpr rfl
  refine sd_cons (s1_set 1 sc_law_refusal.nd (vm_data (em_callE 0 c1 hr hot hp rfl ⟨c, hc, hz, hf, ?_⟩)))
  refine sd_one (s1_ret (em_ite (tm_cmp (nomark _) (em_sl (em_var 1 rfl (om_some (em_int ⟨_, rfl, om_none (ld_list ?_)⟩)))))))
  rw [show cut [wdD c, PyData.str "own", PyData.str "value"] (some 1) none = [PyData.str "own", PyData.str "value"] from rfl]
  refine em_lst (am_cons (em_str (am_cons (em_str (am_nil ⟨small_line (by simp), rfl, fd_eq (roomH_units hr) (by decide +kernel) (by decide +kernel) ⟨_, rfl, fun _ => ?_, fun z => ?_⟩⟩)))))
  · exact em_ix (fun _ _ => rfl) (em_var 1 rfl (em_int (id_list (d := wdD c) rfl q)))
  · exact absurd z (by simp [PyData.eqv, PyData.eqvAll])
end

theorem ends_of {t : List Nat} {s : List Int} (nd : s.Nodup) (r : ∀ x ∈ s, 1 ≤ x ∧ x < t.length) (t0 : 0 < t.length) : ∃ e : Nat → Nat, Ends e (s.length + 1) t.length ∧ (∀ i, 0 < i → i < s.length + 1 → ((e i : Nat) : Int) ∈ s) ∧ ∀ u, cutsL u (endsOf t s) = pce u e (s.length + 1) := by
  have so : (s.mergeSort fun a b => decide (a ≤ b)).Pairwise fun a b => decide (a ≤ b) = true := List.pairwise_mergeSort (fun a b c h1 h2 => by
    simp only [decide_eq_true_eq] at *
    omega) (fun a b => by
    simp only [Bool.or_eq_true, decide_eq_true_eq]
    omega) _
  have pm : (s.mergeSort fun a b => decide (a ≤ b)).Perm s := List.mergeSort_perm _ _
  have sl := pm.length_eq
  have ndo := pm.nodup_iff.mpr nd
  have slt : (s.mergeSort fun a b => decide (a ≤ b)).Pairwise (· < ·) := (so.and ndo).imp fun {a b} h => by
    have := of_decide_eq_true h.1
    have := h.2
    omega
  have mem : ∀ x, x ∈ (s.mergeSort fun a b => decide (a ≤ b)) → x ∈ s := fun x m => pm.mem_iff.mp m
  have le : (endsOf t s).length = s.length + 2 := by
    unfold endsOf
    simp
  have pw : (endsOf t s).Pairwise (· < ·) := by
    unfold endsOf
    rw [List.pairwise_append]
    refine ⟨?_, List.pairwise_singleton _ _, fun a ha b hb => ?_⟩
    · rw [List.pairwise_append]
      refine ⟨List.pairwise_singleton _ _, slt, fun a ha b hb => ?_⟩
      rw [List.mem_singleton.mp ha]
      have := r b (mem b hb)
      omega
    · rw [List.mem_singleton.mp hb]
      rcases List.mem_append.mp ha with ha | ha
      · rw [List.mem_singleton.mp ha]
        omega
      · exact (r a (mem a ha)).2
  have g0 : (endsOf t s).getD 0 0 = 0 := by
    unfold endsOf
    rfl
  have gm : (endsOf t s).getD (s.length + 1) 0 = (t.length : Int) := by
    unfold endsOf
    rw [List.getD_eq_getElem?_getD, List.getElem?_append_right (by simp [sl])]
    simp [sl]
  have gi : ∀ i, 0 < i → i < s.length + 1 → (endsOf t s).getD i 0 ∈ s := by
    intro i i0 hi
    obtain ⟨j, rfl⟩ : ∃ j, i = j + 1 := ⟨i - 1, by omega⟩
    unfold endsOf
    rw [List.getD_eq_getElem?_getD, List.getElem?_append_left (by simp [sl]; omega), List.singleton_append, List.getElem?_cons_succ, List.getElem?_eq_getElem (by omega)]
    exact mem _ (List.getElem_mem _)
  have nn : ∀ i, i < s.length + 2 → 0 ≤ (endsOf t s).getD i 0 := by
    intro i hi
    by_cases a : i = 0
    · rw [a, g0]; exact Int.le_refl _
    · by_cases b : i = s.length + 1
      · rw [b, gm]; omega
      · have := r _ (gi i (by omega) (by omega))
        omega
  refine ⟨fun i => ((endsOf t s).getD i 0).toNat, ⟨?_, ?_, fun i hi => ?_⟩, fun i i0 hi => ?_, fun u => ?_⟩
  · show ((endsOf t s).getD 0 0).toNat = 0
    rw [g0]
    rfl
  · show ((endsOf t s).getD (s.length + 1) 0).toNat = t.length
    rw [gm]
    omega
  · have q := List.pairwise_iff_getElem.mp pw i (i + 1) (by omega) (by omega) (by omega)
    have h1 : (endsOf t s).getD i 0 = (endsOf t s)[i] := by rw [List.getD_eq_getElem?_getD, List.getElem?_eq_getElem (by omega : i < (endsOf t s).length)]; rfl
    have h2 : (endsOf t s).getD (i + 1) 0 = (endsOf t s)[i + 1] := by rw [List.getD_eq_getElem?_getD, List.getElem?_eq_getElem (by omega : i + 1 < (endsOf t s).length)]; rfl
    have n1 := nn i (by omega)
    show ((endsOf t s).getD i 0).toNat < ((endsOf t s).getD (i + 1) 0).toNat
    rw [h1] at n1 ⊢
    rw [h2]
    omega
  · have := nn i (by omega)
    show ((((endsOf t s).getD i 0).toNat : Nat) : Int) ∈ s
    rw [Int.toNat_of_nonneg this]
    exact gi i i0 hi
  · unfold cutsL pce
    rw [le]
    refine List.map_congr_left fun i hi => ?_
    have hi := List.mem_range.mp hi
    have n1 := nn i (by omega)
    have n2 := nn (i + 1) (by omega)
    have := cut_mid u ((endsOf t s).getD i 0).toNat ((endsOf t s).getD (i + 1) 0).toNat
    rw [Int.toNat_of_nonneg n1, Int.toNat_of_nonneg n2] at this
    exact this

/-! ### heaps drawn -/
/-- texts of which a heap can be made -/
structure Rws (top : Int) (l : List (List Nat)) : Prop where
  lo : 2 ≤ l.length
  hi : (l.length : Int) ≤ top
  each : ∀ s ∈ l, 1 ≤ s.length ∧ s.length ≤ 10 ∧ ∀ c ∈ s, 97 ≤ c ∧ c ≤ 104
theorem ch_lett {c : Nat} (h : 97 ≤ c ∧ c ≤ 104) : c ∈ lettersL := by
  have : c = 97 ∨ c = 98 ∨ c = 99 ∨ c = 100 ∨ c = 101 ∨ c = 102 ∨ c = 103 ∨ c = 104 := by omega
  rcases this with rfl | rfl | rfl | rfl | rfl | rfl | rfl | rfl <;> decide
def srt (l : List (List Nat)) : List (List Nat) := l.mergeSort fun a b => decide (a ≤ b)
theorem srt_perm (l : List (List Nat)) : (srt l).Perm l := List.mergeSort_perm _ _
theorem srt_pw (l : List (List Nat)) : (srt l).Pairwise (· ≤ ·) := by
  refine (List.pairwise_mergeSort (le := fun a b : List Nat => decide (a ≤ b)) (fun a b c h1 h2 => ?_) (fun a b => ?_) _).imp fun h => of_decide_eq_true h
  · simp only [decide_eq_true_eq] at *
    exact List.le_trans h1 h2
  · simp only [Bool.or_eq_true, decide_eq_true_eq]
    exact List.le_total a b
theorem Rws.hv {top : Int} {l : List (List Nat)} (r : Rws top l) (t8 : top ≤ 8) : Hv (srt l) := by
  have e := (srt_perm l).length_eq
  have h1 := r.lo
  have h2 := r.hi
  refine ⟨by omega, by omega, fun s m => ?_, srt_pw l⟩
  obtain ⟨a, b, c⟩ := r.each s ((srt_perm l).mem_iff.mp m)
  exact ⟨a, b, fun x mx => ch_lett (c x mx)⟩
theorem Rws.set {top : Int} {l : List (List Nat)} (r : Rws top l) (k : Nat) {s : List Nat} (h1 : 1 ≤ s.length) (h2 : s.length ≤ 10) (h3 : ∀ c ∈ s, 97 ≤ c ∧ c ≤ 104) : Rws top (l.set k s) := by
  refine ⟨by rw [List.length_set]; exact r.lo, by rw [List.length_set]; exact r.hi, fun x m => ?_⟩
  rcases List.mem_or_eq_of_mem_set m with m | rfl
  · exact r.each x m
  · exact ⟨h1, h2, h3⟩
theorem Rws.add {top : Int} {l : List (List Nat)} (r : Rws top l) (hl : (l.length : Int) < top) {s : List Nat} (h1 : 1 ≤ s.length) (h2 : s.length ≤ 10) (h3 : ∀ c ∈ s, 97 ≤ c ∧ c ≤ 104) : Rws top (l ++ [s]) := by
  have := r.lo
  refine ⟨by rw [List.length_append]; omega, by rw [List.length_append, List.length_singleton]; omega, fun x m => ?_⟩
  rcases List.mem_append.mp m with m | m
  · exact r.each x m
  · rw [List.mem_singleton.mp m]
    exact ⟨h1, h2, h3⟩
theorem cuts_each {t : List Nat} {s : List Int} (nd : s.Nodup) (r : ∀ x ∈ s, 1 ≤ x ∧ x < t.length) (t0 : 0 < t.length) : (cutsL t (endsOf t s)).length = s.length + 1 ∧ ∀ x ∈ cutsL t (endsOf t s), 1 ≤ x.length ∧ x.length ≤ t.length ∧ ∀ c ∈ x, c ∈ t := by
  obtain ⟨e, E, _, k⟩ := ends_of nd r t0
  rw [k t]
  exact ⟨pce_len _ _ _, fun x m => pce_each E m⟩
theorem Tw.rws {t : List Nat} {s1 s2 : List Int} {top : Int} (w : Tw t s1 s2 top) : Rws top (cutsL t (endsOf t s1) ++ cutsL t (endsOf t s2)) := by
  have t0 := w.lo
  have t1 := w.hi
  have c := w.ct
  obtain ⟨a1, b1⟩ := cuts_each w.n1 w.r1 (by omega)
  obtain ⟨a2, b2⟩ := cuts_each w.n2 w.r2 (by omega)
  refine ⟨by rw [List.length_append, a1, a2]; omega, by rw [List.length_append, a1, a2]; omega, fun x m => ?_⟩
  rcases List.mem_append.mp m with m | m
  · obtain ⟨p, q, r⟩ := b1 x m
    exact ⟨p, by omega, fun y my => w.ch y (r y my)⟩
  · obtain ⟨p, q, r⟩ := b2 x m
    exact ⟨p, by omega, fun y my => w.ch y (r y my)⟩
theorem kd_sortTup {X : Cx} {l : List (List Nat)} {Q : Bool → D → Prop} (hu : X.A.units + 64 < cLine) (hl : l.length ≤ 1000000) (q : Q true (.list ((srt l).map tx))) : KD X (.builtin "sorted") [.list (l.map tx)] Q := by
  refine kd_sorted_list hu (sorts_tx (small_line hl)) ?_
  rw [dle_tx]
  exact q
section
variable {P : Program} {w : World} {K : PySem.W.Frag} {mg : Str → Option Value} {base : Heap}
def sp_heap : DSp := fun ss Q _ => ∃ p ds top, ss = [.mo p (.lst ds), .va (.int top)] ∧ WellOk ds ∧ 2 ≤ top ∧ top ≤ 8 ∧ ∀ ds' l, WellOk ds' → Rws top l → Q false (hpD (srt l)) [.mo p (.lst ds'), .va (.int top)]
set_option maxHeartbeats 2000000 in
theorem ok_law_heap {f : Addr} {fd : FuncData} (B : Bare mg) (c1 : Cal P w K mg base "_law_take" 1 ["well", "many"] sp_take) (c2 : Cal P w K mg base "_law_signs" 2 ["well", "many", "kinds"] sp_signs) (c3 : Cal P w K mg base "_law_twins" 3 ["well", "top"] sp_twins) (F : Fun K "_law_heap" "_law_heap" s_law_heap f fd) (hm : mg "_law_heap" = some (.ref f)) (hb : Binds K fd ["well", "top"] []) : Cal P w K mg base "_law_heap" 4 ["well", "top"] sp_heap := by
  refine fn_ok F hm hb sc_law_heap (by rintro ss P W ⟨_, _, _, rfl, _⟩; rfl) ?_
  rintro cdv A outer s H E hr ss Q W ⟨p, ds, top, rfl, hw, t2, t8, q⟩
  have gd : ∀ {ρ : List Sl} {m : MO}, ρ[0]? = some (.mo p m) → ∀ as : List Arg, slotsOf as = [0] → GoodArgs ρ as := fun h as e => ⟨by rw [e]; simp, fun j hj => by rw [e] at hj; rw [List.mem_singleton.mp hj]; exact ⟨p, _, h⟩⟩
  refine sd_cons (s1_set 2 sc_law_heap.nd (vm_data (em_callM c1 (hr.mono (by decide)) (zm_s 0 rfl (zm_d (em_int (zm_nil ⟨gd rfl _ rfl, p, ds, 6, rfl, hw, by decide, by decide, fun ds2 way hw2 w0 w1 => ?_⟩)))))))
  refine sd_re (ρ' := [.mo p (.lst ds2), .va (.int top), .va (.int way), .no, .no, .no, .no, .no, .no, .no, .no]) rfl ?_
  refine sd_cons (s1_if (tm_cmp (nomark _) (em_var 2 rfl (em_int (fd_eq_int ⟨_, rfl, fun k1 => ?_, fun k1 => sd_nil ?_⟩)))))
  · refine sd_cons (s1_set 3 sc_law_heap.nd (vm_data (em_bin (em_int (em_callM c1 (hr.mono (by decide)) (zm_s 0 rfl (zm_d (em_int (zm_nil ⟨gd rfl _ rfl, p, ds2, 3, rfl, hw2, by decide, by decide, fun ds3 r3 hw3 r30 r31 => fd_add_int ?_⟩)))))))))
    refine sd_re (ρ' := [.mo p (.lst ds3), .va (.int top), .va (.int way), .va (.int (1 + r3)), .no, .no, .no, .no, .no, .no, .no]) rfl ?_
    refine sd_cons (s1_set 4 sc_law_heap.nd (vm_data (em_bin (em_int (em_callM c1 (hr.mono (by decide)) (zm_s 0 rfl (zm_d (em_bin (em_var 1 rfl (em_int (fd_sub_int (zm_nil ⟨gd rfl _ rfl, p, ds3, top - 1, rfl, hw3, by omega, by omega, fun ds4 r4 hw4 r40 r41 => fd_add_int ?_⟩))))))))))))
    refine sd_re (ρ' := [.mo p (.lst ds4), .va (.int top), .va (.int way), .va (.int (1 + r3)), .va (.int (2 + r4)), .no, .no, .no, .no, .no, .no]) rfl ?_
    refine sd_one (s1_ret (em_callTy B.tuple_ PyProof.Rows.boot_tuple (am_cons (em_callB B.sorted_ PyProof.Rows.boot_sorted (am_cons ?_)))))
    refine em_lc (.nm 10) [("turn", 10)] rfl sc_law_heap.nd (blkOk_by (N := N_law_heap) (sc := defScope s_law_heap) (by decide +kernel)) (fun _ _ _ _ _ => pg_nm sc_law_heap.nd) (by decide) ?_
    refine im_range1 B.range_ (em_var 4 rfl ⟨2 + r4, rfl, by omega, by omega, fun i ys ρ => ∃ ds' l, WellOk ds' ∧ l.length = i ∧ (∀ s ∈ l, 1 ≤ s.length ∧ s.length ≤ 10 ∧ ∀ c ∈ s, 97 ≤ c ∧ c ≤ 104) ∧ ys = l.map tx ∧ ρ = [.mo p (.lst ds'), .va (.int top), .va (.int way), .va (.int (1 + r3)), .va (.int (2 + r4)), .no, .no, .no, .no, .no, .no], ⟨ds4, [], hw4, rfl, fun _ m => absurd m List.not_mem_nil, rfl, rfl⟩, ?_, ?_⟩)
    · rintro i d ys ρ2 hd ⟨ds', l, hw', hl, hc, rfl, rfl⟩
      have hi : i < (2 + r4).toNat := by
        have := (List.getElem?_eq_some_iff.mp hd).1
        simpa [rngD] using this
      refine ⟨_, rfl, fun _ _ _ _ _ => ⟨fun _ _ _ _ _ _ => ?_, fun z => Bool.noConfusion z⟩⟩
      refine em_callM c2 (hr.mono (by decide)) (zm_s 0 rfl (zm_d (em_bin (em_int (em_callM c1 (hr.mono (by decide)) (zm_s 0 rfl (zm_d (em_int (zm_nil ⟨gd rfl _ rfl, p, ds', 4, rfl, hw', by decide, by decide, fun ds5 r5 hw5 r50 r51 => fd_add_int (zm_d (em_var 3 rfl (zm_nil ⟨gd rfl _ rfl, p, ds5, 1 + r5, 1 + r3, rfl, hw5, by omega, by omega, by omega, by omega, fun ds6 t hw6 tl tc => ?_⟩)))⟩)))))))))
      refine ⟨rfl, ?_, ds6, l ++ [t], hw6, by simp [hl], fun s m => ?_, by simp, rfl⟩
      · rw [List.length_map, sizeLine_eq]
        omega
      · rcases List.mem_append.mp m with m | m
        · exact hc s m
        · rw [List.mem_singleton.mp m]
          exact ⟨by omega, by omega, tc⟩
    · rintro ys ρ2 ⟨ds', l, hw', hl, hc, rfl, rfl⟩
      have hl2 : (l.length : Int) = 2 + r4 := by
        rw [hl]
        simp [rngD]
        omega
      refine am_nil (kd_sortTup hr.units (by omega) (am_nil (kd_tuple_list ?_)))
      exact FinP.movas (ds := [.int top]) rfl (q _ l hw' ⟨by omega, by omega, hc⟩)
  have fin : ∀ ds' l a5 a6 a7 a9 p8, WellOk ds' → Rws top l → SD (cxOf (L2N.CX P w) P w K mg base N_law_heap "_law_heap" (defScope s_law_heap) f cdv A outer s H E) ((defBody s_law_heap).drop 6) [.mo p (.lst ds'), .va (.int top), .va (.int way), .no, .no, a5, a6, a7, .mo p8 (.lst (l.map tx)), a9, .no] W { nx := FinP [.mo p (.lst ds), .va (.int top)] Q false .none, rt := FinP [.mo p (.lst ds), .va (.int top)] Q } := by
    intro ds' l a5 a6 a7 a9 p8 hw' R
    have := R.hi
    refine sd_freeze 8 rfl (fz_lst _) (sd_one (s1_ret (em_callTy B.tuple_ PyProof.Rows.boot_tuple (am_cons (em_callB B.sorted_ PyProof.Rows.boot_sorted (am_cons (em_var 8 rfl (am_nil (kd_sortTup hr.units (by omega) (am_nil (kd_tuple_list ?_)))))))))))
    exact FinP.movas (ds := [.int top]) rfl (q _ l hw' R)
  refine sd_cons (s1_unpackL [.nm 5, .nm 6, .nm 7] rfl (pgs_1 (pg_nm sc_law_heap.nd) (pgs_1 (pg_nm sc_law_heap.nd) (pgs_1 (pg_nm sc_law_heap.nd) pgs_0))) (em_callM c3 (hr.mono (by decide)) (zm_s 0 rfl (zm_d (em_var 1 rfl (zm_nil ⟨gd rfl _ rfl, p, ds2, top, rfl, hw2, t2, t8, fun ds3 t s1 s2 hw3 tw => ⟨_, _, rfl, rfl, ?_⟩⟩))))))
  have R := tw.rws
  have Rhi := R.hi
  rw [List.length_append] at Rhi
  refine sd_re (ρ' := [.mo p (.lst ds3), .va (.int top), .va (.int way), .no, .no, .va (tx t), .va (.list ((cutsL t (endsOf t s1)).map tx)), .va (.list ((cutsL t (endsOf t s2)).map tx)), .no, .no, .no]) rfl ?_
  refine sd_cons (s1_set 8 sc_law_heap.nd (vm_own (em_bin (em_var 6 rfl (em_var 7 rfl (fd_add_list (small_line (by simp; omega)) ⟨rfl, _, rfl, fun p8 => ?_⟩))))))
  rw [← List.map_append]
  generalize hL : cutsL t (endsOf t s1) ++ cutsL t (endsOf t s2) = l at R
  generalize hA : Sl.va (tx t) = a5
  generalize hB : Sl.va (.list ((cutsL t (endsOf t s1)).map tx)) = a6
  generalize hC : Sl.va (.list ((cutsL t (endsOf t s2)).map tx)) = a7
  have l2 := R.lo
  have l8 := R.hi
  refine sd_re (ρ' := [.mo p (.lst ds3), .va (.int top), .va (.int way), .no, .no, a5, a6, a7, .mo p8 (.lst (l.map tx)), .no, .no]) rfl ?_
  have step2 : ∀ ds' l a9, WellOk ds' → Rws top l → SD (cxOf (L2N.CX P w) P w K mg base N_law_heap "_law_heap" (defScope s_law_heap) f cdv A outer s H E) ((defBody s_law_heap).drop 5) [.mo p (.lst ds'), .va (.int top), .va (.int way), .no, .no, a5, a6, a7, .mo p8 (.lst (l.map tx)), a9, .no] W { nx := FinP [.mo p (.lst ds), .va (.int top)] Q false .none, rt := FinP [.mo p (.lst ds), .va (.int top)] Q } := by
    intro ds' l a9 hw' R
    have l8 := R.hi
    refine sd_cons (s1_if (tm_of_um (um_and (tm_cmp (nomark _) (em_var 2 rfl (em_int (fd_eq_int ⟨_, rfl, fun k2 => ?_, fun k2 => ⟨fun z => Bool.noConfusion z, fun _ => sd_nil (fin ds' l _ _ _ _ _ hw' R)⟩⟩)))))))
    refine um_and1 (tm_cmp (nomark _) (em_view 8 rfl (fz_lst _) (em_callB B.len PySem.boot_len (am_cons (em_var 8 rfl (am_nil (kd_len_list ⟨rfl, em_var 1 rfl (fd_lt ⟨_, rfl, fun k3 => ?_, fun k3 => sd_nil (fin ds' l _ _ _ _ _ hw' R)⟩)⟩)))))))
    rw [List.length_map] at k3
    have k3' := of_decide_eq_true k3
    refine sd_one (s1_expr (em_append 8 rfl (em_callM c2 (hr.mono (by decide)) (zm_s 0 rfl (zm_d (em_bin (em_int (em_callM c1 (hr.mono (by decide)) (zm_s 0 rfl (zm_d (em_int (zm_nil ⟨gd rfl _ rfl, p, ds', 3, rfl, hw', by decide, by decide, fun ds5 r5 hw5 r50 r51 => fd_add_int (zm_d (em_int (zm_nil ⟨gd rfl _ rfl, p, ds5, 1 + r5, 2, rfl, hw5, by omega, by omega, by omega, by omega, fun ds6 t6 hw6 tl tc => ⟨_, rfl, rfl, ?_, ?_⟩⟩)))⟩))))))))))))
    · rw [List.length_map, sizeLine_eq]
      omega
    · have := fin ds6 (l ++ [t6]) a5 a6 a7 a9 p8 hw6 (R.add k3' (by omega) (by omega) tc)
      rw [List.map_append] at this
      exact this
  refine sd_cons (s1_if (tm_cmp (nomark _) (em_var 2 rfl (em_int (fd_eq_int ⟨_, rfl, fun k2 => ?_, fun k2 => sd_nil (step2 ds3 l _ hw3 R)⟩)))))
  refine sd_cons (s1_set 9 sc_law_heap.nd (vm_data (em_callM c1 (hr.mono (by decide)) (zm_s 0 rfl (zm_d (em_view 8 rfl (fz_lst _) (em_callB B.len PySem.boot_len (am_cons (em_var 8 rfl (am_nil (kd_len_list ⟨rfl, zm_nil ⟨gd rfl _ rfl, p, ds3, ((l.map tx).length : Int), rfl, hw3, by simp; omega, by simp; omega, fun ds4 at1 hw4 at0 at2 => ?_⟩⟩)))))))))))
  rw [List.length_map] at at2
  refine sd_re (ρ' := [.mo p (.lst ds4), .va (.int top), .va (.int way), .no, .no, a5, a6, a7, .mo p8 (.lst (l.map tx)), .va (.int at1), .no]) rfl ?_
  have hat : at1.toNat < l.length := by omega
  have hx : l[at1.toNat]? = some l[at1.toNat] := List.getElem?_eq_getElem hat
  obtain ⟨e1, e2, e3⟩ := R.each _ (List.getElem_mem hat)
  generalize l[at1.toNat] = x at hx e1 e2 e3
  refine sd_one (s1_setItem 8 rfl (em_callM c2 (hr.mono (by decide)) (zm_s 0 rfl (zm_d (em_callB B.len PySem.boot_len (am_cons (em_ixOwn 8 rfl (fun _ _ => rfl) (em_var 9 rfl ⟨at1, _, tx x, rfl, rfl, atI_of at0 (by rw [List.getElem?_map, hx]; rfl), am_nil (kd_len_str (by rw [S_len]; exact small_line (by omega)) (zm_d (em_int (zm_nil ⟨gd rfl _ rfl, p, ds4, ((S x).length : Int), 3, rfl, hw4, by omega, by rw [S_len]; omega, by decide, by decide, fun ds5 t5 hw5 tl tc => ⟨rfl, _, rfl, em_var 9 rfl ⟨_, at1.toNat, ?_, rfl, by rw [List.length_map]; exact hat, ?_⟩⟩⟩))))⟩))))))))
  · rw [Int.toNat_of_nonneg at0]
  · rw [S_len] at tl
    have := step2 ds5 (l.set at1.toNat t5) (.va (.int at1)) hw5 (R.set at1.toNat (by omega) (by omega) tc)
    rw [List.map_set] at this
    exact this
end

theorem eqv_ints : ∀ a b : List Int, PyData.eqvAll (a.map PyData.int) (b.map PyData.int) = decide (a = b)
  | [], [] => by simp [PyData.eqvAll]
  | [], _ :: _ => by simp [PyData.eqvAll]
  | _ :: _, [] => by simp [PyData.eqvAll]
  | x :: a, y :: b => by
    rw [List.map_cons, List.map_cons, PyData.eqvAll, eqv_ints a b]
    by_cases e : x = y
    · simp [PyData.eqv, e]
    · simp [PyData.eqv, e]
theorem eqv_intsL (a b : List Int) : PyData.eqv (.list (a.map .int)) (.list (b.map .int)) = decide (a = b) := by
  rw [PyData.eqv]
  exact eqv_ints a b
theorem eqv_intsT (a b : List Int) : PyData.eqv (.tuple (a.map .int)) (.tuple (b.map .int)) = decide (a = b) := by
  rw [PyData.eqv]
  exact eqv_ints a b
theorem rngD_rngI (n : Nat) : rngD 0 n = (rngI n).map PyData.int := by
  unfold rngD rngI
  rw [List.map_map]
  refine List.map_congr_left fun i _ => ?_
  simp
theorem sort_rng {u : List Int} {n : Nat} (p : u.Perm (rngI n)) : u.mergeSort (fun a b => decide (a ≤ b)) = rngI n := by
  have so : (u.mergeSort fun a b => decide (a ≤ b)).Pairwise fun a b => decide (a ≤ b) = true := List.pairwise_mergeSort (fun a b c h1 h2 => by
    simp only [decide_eq_true_eq] at *
    omega) (fun a b => by
    simp only [Bool.or_eq_true, decide_eq_true_eq]
    omega) _
  refine List.Perm.eq_of_pairwise (le := fun a b => a ≤ b) (fun a b _ _ h1 h2 => Int.le_antisymm h1 h2) (so.imp fun h => of_decide_eq_true h) ((rngI_lt n).imp fun h => Int.le_of_lt h) ((List.mergeSort_perm _ _).trans p)
theorem isNL_lay {h : List (List Nat)} (ne : ∀ s ∈ h, s ≠ []) {L : LY} (l : isNL h L) (h0 : 0 < h.length) : Lay h L.1 L.2 ∧ (0 : Int) ∈ L.1 := by
  obtain ⟨L', m, rfl⟩ := l
  have k := (mem_ordL ne).mp m
  unfold nrm
  split
  · rename_i c
    exact ⟨k, c⟩
  · rename_i c
    refine ⟨lay_swap ne k, ?_⟩
    have : (0 : Int) ∈ L'.1 ++ L'.2 := k.pm.mem_iff.mpr (mem_rngI.mpr ⟨Int.le_refl 0, by omega⟩)
    exact (List.mem_append.mp this).resolve_left c
theorem lay_apart {h : List (List Nat)} {A B : List Int} (l : Lay h A B) {x : Int} (m : x ∈ endsAt h A) : x ∉ endsAt h B := by
  intro m2
  unfold endsAt at m m2
  obtain ⟨i, hi, rfl⟩ := List.mem_map.mp m
  obtain ⟨j, hj, e⟩ := List.mem_map.mp m2
  have hi := List.mem_range.mp hi
  have hj := List.mem_range.mp hj
  exact l.nc (i + 1) (j + 1) (by omega) (by omega) (by omega) (by omega)
section
variable {P : Program} {w : World} {K : PySem.W.Frag} {mg : Str → Option Value} {base : Heap}
def sp_is_laid : DSp := fun ss P _ => ∃ h L, ss = [.va (hpD h), .va (lyD L)] ∧ Hv h ∧ (L.1 ++ L.2).Perm (rngI h.length) ∧ (0 : Int) ∈ L.1 ∧ P false (.bool (laidB h L)) ss
end

/-! ### all orders, all rows of a text -/
def liD (l : List Int) : D := .list (l.map .int)
theorem flat_take {α β : Type} (f : α → List β) {l : List α} {i : Nat} {a : α} (h : l[i]? = some a) : (l.take (i + 1)).flatMap f = (l.take i).flatMap f ++ f a := by
  rw [List.take_add_one, h, List.flatMap_append]
  simp
theorem flat_take_len {α β : Type} (f : α → List β) (l : List α) (i : Nat) : ((l.take i).flatMap f).length ≤ (l.flatMap f).length := by
  have e : l.flatMap f = (l.take i).flatMap f ++ (l.drop i).flatMap f := by rw [← List.flatMap_append, List.take_append_drop]
  rw [e, List.length_append]
  omega
theorem fac8 {n : Nat} (h : n ≤ 8) : fac n ≤ 40320 := Nat.le_trans (fac_le h) (by decide)
theorem wo_filter (l : List Int) (p : Int) : l.filter (fun x => !decide (x = p)) = wo l p := rfl
section
variable {P : Program} {w : World} {K : PySem.W.Frag} {mg : Str → Option Value} {base : Heap}
def sp_orders (n : Nat) : DSp := fun ss Q _ => ∃ l, ss = [.va (liD l)] ∧ l.Nodup ∧ l.length ≤ n ∧ n ≤ 8 ∧ Q false (.list ((ordF n l).map plD)) ss
def sp_rows (n : Nat) : DSp := fun ss Q _ => ∃ h l t, ss = [.va (hpD h), .va (liD l), .va (tx t)] ∧ Hv h ∧ l.Nodup ∧ PlacesOk h l ∧ l.length ≤ n ∧ n ≤ 8 ∧ t.length ≤ 1000 ∧ Q false (.list ((rowF h n l t).map plD)) ss
end

theorem lay_txs (l : List (List Nat)) (h : ∀ s ∈ l, ∀ c ∈ s, c < 0x110000) : PyData.canLayAll0 (l.map tx) = true := by
  induction l with
  | nil => simp [PyData.canLayAll0]
  | cons s l ih =>
    have h1 : PyData.canLay0 (tx s) = true := by rw [PyData.canLay0]; exact strOk_S (h s List.mem_cons_self)
    rw [List.map_cons, PyData.canLayAll0, h1, ih fun x m => h x (List.mem_cons_of_mem _ m)]
    rfl
theorem depth_txs (l : List (List Nat)) : PyData.depthAll (l.map tx) = 0 := by
  induction l with
  | nil => simp [PyData.depthAll]
  | cons s l ih => rw [List.map_cons, PyData.depthAll, ih]; simp [PyData.depth]
theorem shaped_txs {l : List (List Nat)} (h : ∀ s ∈ l, ∀ c ∈ s, c < 0x110000) : SeqAt.shaped (.list (l.map tx)) = true := by
  unfold SeqAt.shaped
  rw [PyData.canLay0, lay_txs l h, PyData.depth, depth_txs]
  decide
theorem shaped_tx {s : List Nat} (h : ∀ c ∈ s, c < 0x110000) : SeqAt.shaped (tx s) = true := by
  unfold SeqAt.shaped
  rw [PyData.canLay0, strOk_S h]
  simp [PyData.depth]
theorem any_txs (l : List (List Nat)) (s : List Nat) : ((l.map tx).any fun z => PyData.eqv z (tx s)) = decide (s ∈ l) := by
  induction l with
  | nil => rfl
  | cons x r ih =>
    rw [List.map_cons, List.any_cons, ih]
    by_cases e : x = s
    · simp [PyData.eqv, e]
    · have e2 : ¬ s = x := fun z => e z.symm
      have e3 : ¬ S x = S s := fun z => e (S_inj.mp z)
      simp [PyData.eqv, e2, e3]
theorem eqv_txs : ∀ a b : List (List Nat), PyData.eqv (.list (a.map tx)) (.list (b.map tx)) = decide (a = b) := by
  intro a b
  rw [PyData.eqv]
  induction a generalizing b with
  | nil => cases b <;> simp [PyData.eqvAll]
  | cons x a ih =>
    cases b with
    | nil => simp [PyData.eqvAll]
    | cons y b =>
      rw [List.map_cons, List.map_cons, PyData.eqvAll, ih b]
      by_cases e : x = y
      · simp [PyData.eqv, e]
      · have e3 : ¬ S x = S y := fun z => e (S_inj.mp z)
        simp [PyData.eqv, e, e3]
section
variable {X : Cx}
theorem kd_max2 {i j : Int} {Q : Bool → D → Prop} (hc : X.calm = true) (q : Q false (.int (if j > i then j else i))) : KD X (.builtin "max") [.int i, .int j] Q := fun I H vs s r R k => by
  cases r with
  | cons r1 r =>
    cases r with
    | cons r2 r =>
      cases r
      rw [r1.int, r2.int]
      exact ⟨_, call_max2 hc, i, j, rfl, k.val s .mkInt q⟩
theorem kd_min2 {i j : Int} {Q : Bool → D → Prop} (hc : X.calm = true) (q : Q false (.int (if j < i then j else i))) : KD X (.builtin "min") [.int i, .int j] Q := fun I H vs s r R k => by
  cases r with
  | cons r1 r =>
    cases r with
    | cons r2 r =>
      cases r
      rw [r1.int, r2.int]
      exact ⟨_, call_min2 hc, i, j, rfl, k.val s .mkInt q⟩
end
theorem told_ch {h : List (List Nat)} (hv : Hv h) {s : List Nat} (m : s ∈ textsU h) : ∀ c ∈ s, c < 0x110000 := by
  obtain ⟨L, _, rfl⟩ := (mem_textsU hv.ne).mp m
  intro c mc
  unfold joinT at mc
  obtain ⟨x, mx, mcx⟩ := List.mem_flatten.mp mc
  obtain ⟨i, _, rfl⟩ := List.mem_map.mp mx
  unfold shr at mcx
  rw [List.getD_eq_getElem?_getD] at mcx
  cases e : h[i.toNat]? with
  | none => rw [e] at mcx; exact absurd mcx List.not_mem_nil
  | some s =>
    rw [e] at mcx
    exact lett_lt c ((hv.each s (List.mem_of_getElem? e)).2.2 c mcx)
theorem told_len {h : List (List Nat)} (hv : Hv h) {s : List Nat} (m : s ∈ textsU h) : s.length ≤ 1000 := by
  obtain ⟨L, mL, rfl⟩ := (mem_textsU hv.ne).mp m
  have k := (mem_ordL hv.ne).mp mL
  have l := k.pm.length_eq
  rw [rngI_len, List.length_append] at l
  have := joinT_le hv.small L.1
  have := hv.hi
  omega
theorem lays_some {h : List (List Nat)} (hv : Hv h) {Ls : List LY} (l : laysOf h Ls) {s : List Nat} (m : s ∈ textsU h) : ∃ L r, Ls = L :: r ∧ isNL h L ∧ Lay h L.1 L.2 ∧ joinT h L.1 ∈ textsU h := by
  obtain ⟨F, nd, mF, rfl⟩ := l
  obtain ⟨L', mL, _⟩ := (mem_textsU hv.ne).mp m
  have mm : nrm L' ∈ F.mergeSort (PySem.W.dataLe false lyD) := List.mem_mergeSort.mpr ((mF _).mpr ⟨L', mL, rfl⟩)
  cases e : F.mergeSort (PySem.W.dataLe false lyD) with
  | nil => rw [e] at mm; exact absurd mm List.not_mem_nil
  | cons L r =>
    have mL2 : L ∈ F := List.mem_mergeSort.mp (by rw [e]; exact List.mem_cons_self)
    have nl := (mF L).mp mL2
    have lo := hv.lo
    have ly := (isNL_lay hv.ne nl (by omega)).1
    exact ⟨L, r, rfl, nl, ly, (mem_textsU hv.ne).mpr ⟨L, (mem_ordL hv.ne).mpr ly, rfl⟩⟩

/-! ### strange shreds: the program -/
theorem has_eq (h : List (List Nat)) : ((begins h).map fun b => can h b.1 b.2).any id = decide (manyW h ≠ 0) := by
  rw [Bool.eq_iff_iff, List.any_map, List.any_eq_true, decide_eq_true_eq]
  have e : ∀ b ∈ begins h, (can h b.1 b.2 = true ↔ wys h b.1 b.2 ≠ 0) := fun b m => by
    have v := (begin_vs m).1.us
    rw [can_cmp _ v rfl, wys_cmp _ v rfl]
    constructor
    · rintro ⟨c, mc⟩ z
      rw [List.length_eq_zero_iff.mp z] at mc
      exact absurd mc List.not_mem_nil
    · intro z
      exact List.exists_mem_of_length_pos (by omega)
  unfold manyW
  generalize begins h = l at e
  induction l with
  | nil => simp
  | cons b l ih =>
    have k := e b List.mem_cons_self
    have k2 := ih fun x m => e x (List.mem_cons_of_mem _ m)
    rw [List.map_cons, List.sum_cons]
    constructor
    · rintro ⟨x, m, hx⟩
      rcases List.mem_cons.mp m with rfl | m
      · have := k.mp hx
        omega
      · have := k2.mp ⟨x, m, hx⟩
        omega
    · intro z
      by_cases c : wys h b.1 b.2 = 0
      · obtain ⟨x, m, hx⟩ := k2.mpr (by omega)
        exact ⟨x, List.mem_cons_of_mem _ m, hx⟩
      · exact ⟨b, List.mem_cons_self, k.mpr c⟩
theorem pow_sum : ∀ n : Nat, ((List.range n).map fun i => 2 ^ (n - (i + 1))).sum ≤ 2 ^ n
  | 0 => by simp
  | n + 1 => by
    rw [List.range_succ_eq_map, List.map_cons, List.sum_cons, List.map_map]
    have e : (List.range n).map ((fun i => 2 ^ (n + 1 - (i + 1))) ∘ Nat.succ) = (List.range n).map fun i => 2 ^ (n - (i + 1)) := List.map_congr_left fun i _ => by
      show 2 ^ (n + 1 - (i + 1 + 1)) = _
      congr 1
      omega
    rw [e]
    have := pow_sum n
    have e2 : n + 1 - (0 + 1) = n := by omega
    rw [e2, Nat.pow_succ]
    omega
theorem sum_mono {α : Type} (f g : α → Nat) : ∀ l : List α, (∀ x ∈ l, f x ≤ g x) → (l.map f).sum ≤ (l.map g).sum
  | [], _ => Nat.le_refl _
  | x :: l, h => by
    have h1 := h x List.mem_cons_self
    have h2 := sum_mono f g l fun y m => h y (List.mem_cons_of_mem _ m)
    rw [List.map_cons, List.map_cons, List.sum_cons, List.sum_cons]
    omega
theorem chF_len : ∀ (m : Nat) (l : List Int), (chF m l).length ≤ 2 ^ l.length
  | 0, l => by
    show 1 ≤ _
    exact Nat.one_le_two_pow
  | m + 1, l => by
    unfold chF
    rw [List.length_flatMap]
    refine Nat.le_trans (sum_mono _ (fun i => 2 ^ (l.length - (i + 1))) _ fun i _ => ?_) (pow_sum _)
    rw [List.length_map]
    have := chF_len m (l.drop (i + 1))
    rw [List.length_drop] at this
    exact this
theorem pow256 {n : Nat} (h : n ≤ 8) : 2 ^ n ≤ 256 := Nat.le_trans (Nat.pow_le_pow_right (by decide) h) (by decide)
theorem wout_small {h : List (List Nat)} (s : Small h) (z : List Int) : Small (wout h z) := by
  have k := wout_sub (h := h) z
  have := k.length_le
  have := s.len
  exact ⟨by omega, fun x m => s.each x (k.subset m)⟩
theorem wout_range (h : List (List Nat)) (z : List Int) : ((List.range h.length).filter fun (i : Nat) => !decide ((i : Int) ∈ z)).map (fun (i : Nat) => tx (shr h (i : Int))) = (wout h z).map tx := by
  unfold wout rst rngI
  rw [List.filter_map, List.map_map, List.map_map]
  rfl
def optD (o : Option (List Int)) : D := match o with
  | none => .none
  | some z => plD z
/-- anything of a modest size -/
structure Th (d : D) : Prop where
  tm : tame d = true
  sh : SeqAt.shaped d = true
def isPl (n : Nat) (d : D) : Bool := match d with
  | .tuple ds => !decide (ds = []) && ds.all fun x => isInt x 0 ((n : Int) - 1)
  | _ => false
noncomputable def isStr (h : List (List Nat)) (d : D) : Bool := @decide (∃ z, d = plD z ∧ z ∈ allCh h.length ∧ goodB h z = true) (Classical.propDecidable _)
theorem isStr_iff {h : List (List Nat)} {d : D} : isStr h d = true ↔ ∃ z, d = plD z ∧ z ∈ allCh h.length ∧ goodB h z = true := by unfold isStr; exact @decide_eq_true_iff _ (Classical.propDecidable _)
theorem isPl_tup {n : Nat} {ds : List D} : isPl n (.tuple ds) = (!decide (ds = []) && ds.all fun x => isInt x 0 ((n : Int) - 1)) := rfl
theorem isPl_ints {n : Nat} {ds : List D} (h : isPl n (.tuple ds) = true) : ∃ z : List Int, ds = z.map .int ∧ z ≠ [] ∧ ∀ x ∈ z, 0 ≤ x ∧ x < n := by
  rw [isPl_tup, Bool.and_eq_true] at h
  have a := List.all_eq_true.mp h.2
  have ne : ds ≠ [] := by simpa using h.1
  have : ∀ l : List D, (∀ x ∈ l, isInt x 0 ((n : Int) - 1) = true) → ∃ z : List Int, l = z.map .int ∧ ∀ x ∈ z, 0 ≤ x ∧ x < n := by
    intro l
    induction l with
    | nil => intro _; exact ⟨[], rfl, fun x m => absurd m List.not_mem_nil⟩
    | cons d l ih =>
      intro k
      obtain ⟨z, e, b⟩ := ih fun x m => k x (List.mem_cons_of_mem _ m)
      have kd := k d List.mem_cons_self
      cases d with
      | int i =>
        have kd' : (decide (0 ≤ i) && decide (i ≤ (n : Int) - 1)) = true := kd
        rw [Bool.and_eq_true, decide_eq_true_eq, decide_eq_true_eq] at kd'
        refine ⟨i :: z, by rw [e]; rfl, fun x m => ?_⟩
        rcases List.mem_cons.mp m with rfl | m
        · omega
        · exact b x m
      | _ => exact absurd kd (by simp [isInt])
  obtain ⟨z, e, b⟩ := this ds a
  exact ⟨z, e, fun k => ne (by rw [e, k]; rfl), b⟩
theorem isPl_of {n : Nat} {z : List Int} (ne : z ≠ []) (b : ∀ x ∈ z, 0 ≤ x ∧ x < n) : isPl n (plD z) = true := by
  show isPl n (.tuple (z.map .int)) = true
  rw [isPl_tup, Bool.and_eq_true]
  refine ⟨by simp [ne], List.all_eq_true.mpr fun d m => ?_⟩
  obtain ⟨x, mx, rfl⟩ := List.mem_map.mp m
  have := b x mx
  show (decide (0 ≤ x) && decide (x ≤ (n : Int) - 1)) = true
  rw [Bool.and_eq_true, decide_eq_true_eq, decide_eq_true_eq]
  omega
theorem pw_all (z : List Int) : ((List.range (z.length - 1)).all fun k => decide (z.getD k 0 < z.getD (k + 1) 0)) = true ↔ z.Pairwise (· < ·) := by
  rw [List.all_eq_true]
  constructor
  · intro h
    rw [List.pairwise_iff_getElem]
    have step : ∀ k, k + 1 < z.length → z.getD k 0 < z.getD (k + 1) 0 := fun k hk => of_decide_eq_true (h k (List.mem_range.mpr (by omega)))
    have far : ∀ d i, i + (d + 1) < z.length → z.getD i 0 < z.getD (i + (d + 1)) 0 := by
      intro d
      induction d with
      | zero => exact fun i hi => step i hi
      | succ d ih =>
        intro i hi
        have h1 := ih i (by omega)
        have h2 := step (i + (d + 1)) (by omega)
        exact Int.lt_trans h1 h2
    intro i j hi hj hij
    have := far (j - i - 1) i (by omega)
    rw [show i + (j - i - 1 + 1) = j by omega] at this
    rw [List.getD_eq_getElem?_getD, List.getD_eq_getElem?_getD, List.getElem?_eq_getElem hi, List.getElem?_eq_getElem hj] at this
    exact this
  · intro pw k mk
    have hk := List.mem_range.mp mk
    have := List.pairwise_iff_getElem.mp pw k (k + 1) (by omega) (by omega) (by omega)
    rw [decide_eq_true_eq, List.getD_eq_getElem?_getD, List.getD_eq_getElem?_getD, List.getElem?_eq_getElem (by omega), List.getElem?_eq_getElem (by omega)]
    exact this
section
variable {P : Program} {w : World} {K : PySem.W.Frag} {mg : Str → Option Value} {base : Heap}
def sp_has : DSp := fun ss Q _ => ∃ h, ss = [.va (hpD h)] ∧ Hv h ∧ Q false (.bool (decide (manyW h ≠ 0))) ss
def sp_without : DSp := fun ss Q _ => ∃ h z, ss = [.va (hpD h), .va (plD z)] ∧ Small h ∧ Q false (hpD (wout h z)) ss
def sp_choices (n : Nat) : DSp := fun ss Q _ => ∃ (l : List Int) (m : Nat), ss = [.va (liD l), .va (.int (m : Int))] ∧ l.length ≤ 8 ∧ m ≤ n ∧ Q false (.list ((chF m l).map plD)) ss
end

theorem heap_wout {h : List (List Nat)} (hv : Hv h) (z : List Int) : shredsOk (hpD (wout h z)) 2 = decide (2 ≤ (wout h z).length) := by
  by_cases c : 2 ≤ (wout h z).length
  · rw [shreds_hv (hv_wout hv c), decide_eq_true c]
  · rw [decide_eq_false c]
    show shredsOk (.tuple ((wout h z).map tx)) 2 = false
    rw [shredsOk_tup, decide_eq_false (by rw [List.length_map]; omega), Bool.false_and]
section
variable {P : Program} {w : World} {K : PySem.W.Frag} {mg : Str → Option Value} {base : Heap}
def sp_are_strange : DSp := fun ss Q _ => ∃ h z, ss = [.va (hpD h), .va (plD z)] ∧ Hv h ∧ Q false (.bool (goodB h z)) ss
def sp_strange : DSp := fun ss Q _ => ∃ h, ss = [.va (hpD h)] ∧ Hv h ∧ Q false (optD (strF h)) ss
def sp_whole : DSp := fun ss Q _ => ∃ d low high, ss = [.va d, .va (.int low), .va (.int high)] ∧ nd d = true ∧ Q false (.bool (isInt d low high)) ss
theorem ok_is_whole {f : Addr} {fd : FuncData} (B : Bare mg) (F : Fun K "is_whole" "is_whole" s_is_whole f fd) (hm : mg "is_whole" = some (.ref f)) (hb : Binds K fd ["thing", "low", "high"] []) : Cal P w K mg base "is_whole" 1 ["thing", "low", "high"] sp_whole := by
  refine fn_ok F hm hb sc_is_whole (by rintro ss P W ⟨_, _, _, rfl, _⟩; rfl) ?_
  rintro cdv A outer s H E hr ss Q W ⟨d, low, high, rfl, hn, q⟩
  have no : isInt d low high = false → ∀ ρ, FinP [.va d, .va (.int low), .va (.int high)] Q false (.bool false) ρ := fun e ρ => FinP.va (ds := [d, .int low, .int high]) (by rw [e] at q; exact q)
  refine sd_one (s1_ret (em_and (em_isi (.inl rfl) B.isinstance_ B.int_ boot_int (em_var 0 rfl ⟨hn, _, rfl, fun k1 => ?_, fun k1 => no (by cases d <;> first | rfl | (exact absurd k1 (by simp [isTy, tyD]))) _⟩))))
  refine em_and (em_not (em_isi (.inr (.inl rfl)) B.isinstance_ B.bool_ boot_bool (em_var 0 rfl ⟨hn, _, rfl, _, rfl, fun k2 => ?_, fun k2 => ?_⟩)))
  · cases d with
    | int i =>
      refine em_one (em_chain (by with_unfolding_all rfl) (em_var 1 rfl (em_var 0 rfl (fd_le ⟨_, rfl, fun k3 => ?_, fun k3 => em_var 2 rfl (fd_le (FinP.va (ds := [.int i, .int low, .int high]) ?_))⟩))))
      · exact no (by show (decide (low ≤ i) && decide (i ≤ high)) = false; rw [k3, Bool.false_and]) _
      · have e : isInt (.int i) low high = decide (i ≤ high) := by
          show (decide (low ≤ i) && decide (i ≤ high)) = _
          rw [k3, Bool.true_and]
        rw [e] at q
        exact q
    | _ => simp [isTy, tyD] at k1 k2
  · exact no (by cases d <;> first | rfl | (exact absurd k2 (by simp [isTy, tyD]))) _
theorem tame_all {ds : List D} (h : tame (.tuple ds) = true) : ds.length ≤ 1000000 ∧ ∀ d ∈ ds, tame d = true := by
  have : (decide (ds.length ≤ 1000000) && tameAll ds) = true := by simpa [tame] using h
  rw [Bool.and_eq_true, decide_eq_true_eq] at this
  exact ⟨this.1, tameAll_mem this.2⟩
def sp_are_places : DSp := fun ss Q _ => ∃ h d, ss = [.va (hpD h), .va d] ∧ Hv h ∧ tame d = true ∧ Q false (.bool (isPl h.length d)) ss
theorem ok_are_places {f : Addr} {fd : FuncData} (B : Bare mg) (c1 : Cal P w K mg base "is_whole" 1 ["thing", "low", "high"] sp_whole) (F : Fun K "are_places" "are_places" s_are_places f fd) (hm : mg "are_places" = some (.ref f)) (hb : Binds K fd ["heap", "thing"] []) : Cal P w K mg base "are_places" 2 ["heap", "thing"] sp_are_places := by
  refine fn_ok F hm hb sc_are_places (by rintro ss P W ⟨_, _, rfl, _⟩; rfl) ?_
  rintro cdv A outer s H E hr ss Q W ⟨h, d, rfl, hv, ht, q⟩
  have no : isPl h.length d = false → ∀ ρ, FinP [.va (hpD h), .va d] Q false (.bool false) ρ := fun e ρ => FinP.va (ds := [hpD h, d]) (by rw [e] at q; exact q)
  refine sd_cons (s1_if (tm_of_um (um_or (tm_not (tm_val (em_isi (.inr (.inr (.inr (.inl rfl)))) B.isinstance_ B.tuple_ boot_tuple (em_var 1 rfl ⟨tame_nd ht, _, rfl, fun k1 => ?_, fun k1 => ⟨fun _ => ?_, fun z => Bool.noConfusion z⟩⟩)))))))
  · cases d with
    | tuple ds =>
      obtain ⟨hz, hta⟩ := tame_all ht
      refine um_or1 (tm_cmp (nomark _) (em_callB B.len PySem.boot_len (am_cons (em_var 1 rfl (am_nil (kd_len_tuple (em_int (fd_eq_int ⟨_, rfl, fun k2 => ?_, fun k2 => sd_nil ?_⟩))))))))
      · have e : ds = [] := by
          have := of_decide_eq_true k2
          exact List.length_eq_zero_iff.mp (by omega)
        exact sd_one (s1_ret (em_bool (no (by rw [isPl_tup, e]; rfl) _)))
      · have ne : ds ≠ [] := fun e => by rw [e] at k2; simp at k2
        refine sd_one (s1_ret (em_callB B.all_ boot_all (am_cons ?_)))
        refine em_fm (.nm 2) [("place", 2)] rfl sc_are_places.nd (blkOk_by (N := N_are_places) (sc := defScope s_are_places) (by decide +kernel)) (fun _ _ _ _ _ => pg_nm sc_are_places.nd) (by decide) (.map (fun x => x) (fun x => .bool (isInt x 0 ((h.length : Int) - 1))) (im_tuple (em_var 1 rfl ⟨ds, rfl, ds, by simp, small_line hz, fun x hx => ⟨_, rfl, fun _ _ _ _ _ => ?_⟩, ?_⟩)))
        · refine em_call c1 (hr.mono (by decide)) (am_cons (em_var 2 rfl (am_cons (em_int (am_cons (em_bin (em_callB B.len PySem.boot_len (am_cons (em_var 0 rfl (am_nil (kd_len_tuple (em_int (fd_sub_int (am_nil ⟨W0, fun _ z => z.elim, x, 0, ((h.map tx).length : Int) - 1, rfl, tame_nd (hta x hx), rfl, ?_⟩))))))))))))))
          rw [List.length_map]
        · have e : ds.map (fun x => PyData.bool (isInt x 0 ((h.length : Int) - 1))) = (ds.map fun x => isInt x 0 ((h.length : Int) - 1)).map PyData.bool := by rw [List.map_map]; rfl
          rw [e]
          refine am_nil (kd_all rfl (FinP.va (ds := [hpD h, .tuple ds]) ?_))
          have e2 : isPl h.length (.tuple ds) = (ds.map fun x => isInt x 0 ((h.length : Int) - 1)).all id := by
            rw [isPl_tup, List.all_map]
            simp [ne]
          rw [e2] at q
          exact q
    | _ => simp [isTy, tyD] at k1
  · exact sd_one (s1_ret (em_bool (no (by cases d <;> first | rfl | (exact absurd k1 (by simp [isTy, tyD]))) _)))
end

theorem atI_ints {z : List Int} {k : Nat} {i : Int} (e : i = (k : Int)) (h : k < z.length) : atI (z.map PyData.int) i = some (.int (z.getD k 0)) := by
  subst e
  refine atI_nat ?_
  rw [List.getElem?_map, List.getElem?_eq_getElem h, List.getD_eq_getElem?_getD, List.getElem?_eq_getElem h]
  rfl
theorem isStr_ints {h : List (List Nat)} {z : List Int} (b : ∀ x ∈ z, 0 ≤ x ∧ x < h.length) : isStr h (plD z) = (((List.range (z.length - 1)).all fun k => decide (z.getD k 0 < z.getD (k + 1) 0)) && goodB h z) := by
  rw [Bool.eq_iff_iff, isStr_iff, Bool.and_eq_true, pw_all]
  constructor
  · rintro ⟨z', e, m, g⟩
    have e2 : z = z' := by
      have := eqv_intsT z z'
      rw [show PyData.eqv (.tuple (z.map .int)) (.tuple (z'.map .int)) = true by
        rw [show PyData.tuple (z'.map .int) = PyData.tuple (z.map .int) from e.symm, eqv_intsT]
        simp] at this
      exact of_decide_eq_true this.symm
    subst e2
    exact ⟨(mem_allCh.mp m).1, g⟩
  · rintro ⟨pw, g⟩
    exact ⟨z, rfl, mem_allCh.mpr ⟨pw, b⟩, g⟩
section
variable {P : Program} {w : World} {K : PySem.W.Frag} {mg : Str → Option Value} {base : Heap}
def sp_is_strange : DSp := fun ss Q _ => ∃ h d, ss = [.va (hpD h), .va d] ∧ Hv h ∧ Th d ∧ Q false (.bool (isStr h d)) ss
def sp_says : DSp := fun ss Q _ => ∃ a b, ss = [.va (.bool a), .va (.bool b)] ∧ Q false (.bool (decide (a = b))) ss
end
/-! ### all lots, by size -/
def slD (l : List Int) : D := .tuple [.int (l.length : Nat), plD l]
theorem dle_sl : PySem.W.dataLe false slD = fun a b => decide (sl a b) := by
  funext a b
  rw [PySem.W.dataLe_eq]
  show (!PySem.W.dataLt (slD b) (slD a)) = _
  unfold slD plD
  rw [PySem.W.dataLt_pair (by simp [PySem.W.alike]) (by simp [PySem.W.alike, PySem.W.alike_ints]), eqv_intsT, PySem.W.dataLt_int]
  have e1 : PySem.W.dataLt (.tuple (b.map .int)) (.tuple (a.map .int)) = decide (b < a) := by
    rw [PySem.W.dataLt_tuple]
    exact PySem.W.dataLt_ints b a
  rw [e1]
  have e2 : PyData.eqv (.int (b.length : Nat)) (.int (a.length : Nat)) = decide (b.length = a.length) := by
    simp only [PyData.eqv]
    rw [Bool.eq_iff_iff, beq_iff_eq, decide_eq_true_eq]
    omega
  rw [e2]
  unfold sl
  by_cases c1 : b.length = a.length
  · rw [decide_eq_true c1, if_pos rfl]
    by_cases c2 : b = a
    · subst c2
      simp
    · rw [decide_eq_false c2, if_neg Bool.false_ne_true]
      by_cases c3 : b < a
      · have : ¬ a ≤ b := fun k => absurd c3 (List.not_lt.mpr k)
        have h1 : ¬ a.length < b.length := by omega
        simp [c3, this, h1]
      · have : a ≤ b := List.not_lt.mp c3
        simp [c3, this, c1]
  · rw [decide_eq_false c1, if_neg Bool.false_ne_true]
    by_cases c3 : (b.length : Int) < (a.length : Int)
    · have h1 : ¬ a.length < b.length := by omega
      have h2 : ¬ a.length = b.length := by omega
      simp [c3, h1, h2]
    · have h1 : a.length < b.length := by omega
      simp [c3, h1]
theorem lots_sorted {n : Nat} (hn : n ≤ 8) : (lotU n).mergeSort (PySem.W.dataLe false slD) = allCh n := by
  have T : PySem.W.TotalLe (PySem.W.dataLe false slD) := PySem.W.sortLe_total (PyProof.Rows.listOrd PyProof.Rows.itemOrd) false fun b => PySem.W.keyToks (slD b)
  refine List.Perm.eq_of_pairwise (le := fun a b => sl a b) (fun a b _ _ h1 h2 => ?_) ?_ (lots_pw n hn) ((List.mergeSort_perm _ _).trans (lots_perm n hn))
  · rcases h1 with h1 | ⟨h1, h1'⟩
    · rcases h2 with h2 | ⟨h2, _⟩ <;> omega
    · rcases h2 with h2 | ⟨_, h2⟩
      · omega
      · exact List.le_antisymm h1' h2
  · refine (List.pairwise_mergeSort (fun a b c => T.trans a b c) (fun a b => by rw [Bool.or_eq_true]; exact T.total a b) _).imp fun {a b} h => ?_
    rw [dle_sl] at h
    exact of_decide_eq_true h
theorem depth_sl (l : List Int) : PyData.depth (slD l) ≤ 2 := by
  simp [slD, plD, PyData.depth, PyData.depthAll, PySem.W.depth_ints]
theorem sorts_sl {F : List (List Int)} (h : F.length ≤ sizeLine) : Sorts slD F := ⟨PySem.W.AllAlike.of fun a b => by simp [slD, plD, PySem.W.alike, PySem.W.alikeAll, PySem.W.alike_ints], PySem.W.Sortable.tuples fun L => ⟨_, _, rfl⟩, fun L _ => Nat.le_trans (depth_sl L) (by decide), h⟩
section
variable {P : Program} {w : World} {K : PySem.W.Frag} {mg : Str → Option Value} {base : Heap}
def sp_lots : DSp := fun ss Q _ => ∃ n : Nat, ss = [.va (.int (n : Int))] ∧ n ≤ 8 ∧ Q true (.list ((allCh n).map plD)) ss
def sp_good : DSp := fun ss Q _ => ∃ h z, ss = [.va (hpD h), .va (plD z)] ∧ Hv h ∧ Q false (.bool (goodB h z)) ss
end

/-! ### anything drawn -/
def thB (n : Nat) (d : D) : Bool := tame d && (PyData.canLay0 d && decide (PyData.depth d ≤ n + 1))
theorem thB_th {n : Nat} {d : D} (hn : n ≤ 20) (h : thB n d = true) : Th d := by
  unfold thB at h
  rw [Bool.and_eq_true, Bool.and_eq_true, decide_eq_true_eq] at h
  refine ⟨h.1, ?_⟩
  unfold SeqAt.shaped
  rw [h.2.1, decide_eq_true (by omega)]
  rfl
theorem thB_all {n : Nat} {ds : List D} (h : ∀ d ∈ ds, thB n d = true) : tameAll ds = true ∧ PyData.canLayAll0 ds = true ∧ PyData.depthAll ds ≤ n + 1 := by
  induction ds with
  | nil => exact ⟨rfl, by simp [PyData.canLayAll0], by simp [PyData.depthAll]⟩
  | cons d ds ih =>
    obtain ⟨a, b, c⟩ := ih fun x m => h x (List.mem_cons_of_mem _ m)
    have hd := h d List.mem_cons_self
    unfold thB at hd
    rw [Bool.and_eq_true, Bool.and_eq_true, decide_eq_true_eq] at hd
    refine ⟨by rw [tameAll, hd.1, a]; rfl, by rw [PyData.canLayAll0, hd.2.1, b]; rfl, ?_⟩
    rw [PyData.depthAll]
    have := hd.2.2
    omega
theorem thB_list {n : Nat} {ds : List D} (hl : ds.length ≤ 1000000) (h : ∀ d ∈ ds, thB n d = true) : thB (n + 1) (.list ds) = true ∧ thB (n + 1) (.tuple ds) = true := by
  obtain ⟨a, b, c⟩ := thB_all h
  constructor
  · unfold thB
    rw [tame, PyData.canLay0, PyData.depth, a, b, decide_eq_true hl, decide_eq_true (by omega)]
    rfl
  · unfold thB
    rw [tame, PyData.canLay0, PyData.depth, a, b, decide_eq_true hl, decide_eq_true (by omega)]
    rfl
theorem thB_mono {n k : Nat} {d : D} (h : thB n d = true) (l : n ≤ k) : thB k d = true := by
  unfold thB at *
  rw [Bool.and_eq_true, Bool.and_eq_true, decide_eq_true_eq] at *
  exact ⟨h.1, h.2.1, by omega⟩
def any18 : List D := [.int 0, .int (-1), .int 1, .bool true, .bool false, .none, .str "", .str "a", .str "ab", .str "A", .str "a b", .str "abcdefghi", .int 2, .int 3, .int (-7), .str "take", .int (10 ^ (11 : Int).toNat), .int 8]
def any21 : List D := any18 ++ [.tuple [], .list [], .tuple [.int 0, .int 1]]
theorem any21_th : (any21.all fun d => thB 0 d) = true := by decide +kernel
theorem any21_len : any21.length = 21 := rfl
section
variable {P : Program} {w : World} {K : PySem.W.Frag} {mg : Str → Option Value} {base : Heap}
def sp_thing (n : Nat) : DSp := fun ss Q _ => ∃ p ds k, ss = [.mo p (.lst ds), .va (.int k)] ∧ k = (n : Int) ∧ WellOk ds ∧ ∀ ds' d, WellOk ds' → thB n d = true → Q false d [.mo p (.lst ds'), .va (.int k)]
theorem ok_law_thing {f : Addr} {fd : FuncData} (B : Bare mg) (c1 : Cal P w K mg base "_law_take" 1 ["well", "many"] sp_take) (F : Fun K "_law_thing" "_law_thing" s_law_thing f fd) (hm : mg "_law_thing" = some (.ref f)) (hb : Binds K fd ["well", "deep"] []) : ∀ n, Cal P w K mg base "_law_thing" (n + 2) ["well", "deep"] (sp_thing n) := by
  have step : ∀ n, (∀ m, n = m + 1 → Cal P w K mg base "_law_thing" (m + 2) ["well", "deep"] (sp_thing m)) → Cal P w K mg base "_law_thing" (n + 2) ["well", "deep"] (sp_thing n) := by
    intro n ih
    refine fn_ok F hm hb sc_law_thing (by rintro ss P W ⟨_, _, _, rfl, _⟩; rfl) ?_
    rintro cdv A outer s H E hr ss Q W ⟨p, ds, k, rfl, hk, hw, q⟩
    have gd : ∀ {ρ : List Sl} {m : MO}, ρ[0]? = some (.mo p m) → ∀ as : List Arg, slotsOf as = [0] → GoodArgs ρ as := fun h as e => ⟨by rw [e]; simp, fun j hj => by rw [e] at hj; rw [List.mem_singleton.mp hj]; exact ⟨p, _, h⟩⟩
    refine sd_cons (s1_set 2 sc_law_thing.nd (vm_data (em_callM c1 (hr.mono (by omega)) (zm_s 0 rfl (zm_d (em_int (zm_nil ⟨gd rfl _ rfl, p, ds, 9, rfl, hw, by decide, by decide, fun ds2 way hw2 w0 w1 => ?_⟩)))))))
    refine sd_re (ρ' := [.mo p (.lst ds2), .va (.int k), .va (.int way), .no, .no, .no]) rfl ?_
    refine sd_cons (s1_if (tm_mono (QT := fun b ρ' => (b = false → 6 ≤ way ∧ k ≠ 0) ∧ ρ' = [.mo p (.lst ds2), .va (.int k), .va (.int way), .no, .no, .no]) (tm_of_um (um_or (tm_cmp (nomark _) (em_var 2 rfl (em_int (fd_lt ⟨_, rfl, fun k1 => um_or1 (tm_cmp (nomark _) (em_var 1 rfl (em_int (fd_eq_int ⟨_, rfl, ?_, rfl⟩)))), fun k1 => ⟨fun z => Bool.noConfusion z, rfl⟩⟩)))))) ?_))
    · intro k2
      have := of_decide_eq_false k1
      have := of_decide_eq_false k2
      exact ⟨by omega, by omega⟩
    rintro b ρ' ⟨hb2, rfl⟩
    refine ⟨fun _ => ?_, fun z => sd_nil ?_⟩
    · refine sd_cons (s1_set 3 sc_law_thing.nd (vm_data (em_lst ?_)))
      repeat walk_at "e"
      refine fd_pow_int ⟨by decide, by decide, by decide⟩ ?_
      repeat walk_at "e"
      refine ⟨small_line (by simp), rfl, ?_⟩
      refine sd_re (ρ' := [.mo p (.lst ds2), .va (.int k), .va (.int way), .va (.list any18), .no, .no]) rfl ?_
      refine sd_one (s1_ret (em_ix (fun _ _ => rfl) (em_bin (em_var 3 rfl ?_))))
      refine em_lst (am_cons (em_tup (am_nil ⟨small_line (by simp), rfl, ?_⟩)))
      refine am_cons (em_lst (am_nil ⟨small_line (by simp), rfl, ?_⟩))
      refine am_cons (em_tup (am_cons (em_int (am_cons (em_int (am_nil ⟨small_line (by simp), rfl, ?_⟩))))))
      refine am_nil ⟨small_line (by simp), rfl, fd_add_list (small_line (by decide)) ?_⟩
      refine em_callM c1 (hr.mono (by omega)) (zm_s 0 rfl (zm_d (em_int (zm_nil ⟨gd rfl _ rfl, p, ds2, 21, rfl, hw2, by decide, by decide, fun ds3 r hw3 r0 r1 => ?_⟩))))
      have hr2 : r.toNat < any21.length := by rw [any21_len]; omega
      refine id_list (d := any21[r.toNat]) (atI_of r0 ?_) ?_
      · show any21[r.toNat]? = _
        exact List.getElem?_eq_getElem hr2
      · exact FinP.mova rfl (q _ _ hw3 (thB_mono (List.all_eq_true.mp any21_th _ (List.getElem_mem hr2)) (Nat.zero_le _)))
    obtain ⟨w6, kz⟩ := hb2 z
    obtain ⟨n, rfl⟩ : ∃ m, n = m + 1 := ⟨n - 1, by omega⟩
    have c2 := ih n rfl
    refine sd_cons (s1_setLcD 4 (.nm 5) [("k", 5)] rfl sc_law_thing.nd (blkOk_by (N := N_law_thing) (sc := defScope s_law_thing) (by decide +kernel)) (fun _ _ _ _ _ => pg_nm sc_law_thing.nd) (by decide) ?_ rfl)
    refine im_range1 B.range_ (em_callM c1 (hr.mono (by omega)) (zm_s 0 rfl (zm_d (em_int (zm_nil ⟨gd rfl _ rfl, p, ds2, 6, rfl, hw2, by decide, by decide, fun ds3 r hw3 r0 r1 => ⟨r, rfl, by omega, by omega, fun i ys ρ => ∃ ds', WellOk ds' ∧ ys.length = i ∧ (∀ d ∈ ys, thB n d = true) ∧ ρ = [.mo p (.lst ds'), .va (.int k), .va (.int way), .no, .no, .no], ⟨ds3, hw3, rfl, fun _ m => absurd m List.not_mem_nil, rfl⟩, ?_, ?_⟩⟩)))))
    · rintro i d ys ρ2 hd ⟨ds', hw', hl, hy, rfl⟩
      have hi : i < r.toNat := by
        have := (List.getElem?_eq_some_iff.mp hd).1
        simpa [rngD] using this
      refine ⟨_, rfl, fun _ _ _ _ _ => ⟨fun _ _ _ _ _ _ => ?_, fun z => Bool.noConfusion z⟩⟩
      refine em_callM c2 (hr.mono (by omega)) (zm_s 0 rfl (zm_d (em_bin (em_var 1 rfl (em_int (fd_sub_int (zm_nil ⟨gd rfl _ rfl, p, ds', k - 1, rfl, by omega, hw', fun ds4 d hw4 hd4 => ⟨tame_nd ?_, ?_, ds4, hw4, by simp [hl], fun x m => ?_, rfl⟩⟩)))))))
      · unfold thB at hd4
        rw [Bool.and_eq_true] at hd4
        exact hd4.1
      · rw [sizeLine_eq]
        omega
      · rcases List.mem_append.mp m with m | m
        · exact hy x m
        · rw [List.mem_singleton.mp m]
          exact hd4
    · rintro ys ρ2 ⟨ds', hw', hl, hy, rfl⟩
      have hl6 : ys.length ≤ 6 := by
        rw [hl]
        simp [rngD]
        omega
      obtain ⟨t1, t2⟩ := thB_list (by omega) hy
      refine sd_one (s1_ret (em_ix (fun _ _ => rfl) (em_lst (am_cons (em_var 4 rfl (am_cons (em_callTy B.tuple_ PyProof.Rows.boot_tuple (am_cons (em_var 4 rfl (am_nil (kd_tuple_list (am_cons (em_callTy B.tuple_ PyProof.Rows.boot_tuple (am_cons (em_var 4 rfl (am_nil (kd_tuple_list (am_nil ⟨small_line (by simp), rfl, em_bin (em_var 2 rfl (em_int (fd_sub_int ?_)))⟩))))))))))))))))))
      have : way - 6 = 0 ∨ way - 6 = 1 ∨ way - 6 = 2 := by omega
      rcases this with e | e | e <;> rw [e]
      · exact id_list (d := .list ys) rfl (FinP.mova rfl (q _ _ hw' t1))
      · exact id_list (d := .tuple ys) rfl (FinP.mova rfl (q _ _ hw' t2))
      · exact id_list (d := .tuple ys) rfl (FinP.mova rfl (q _ _ hw' t2))
  intro n
  induction n with
  | zero => exact step 0 fun m e => by omega
  | succ n ih =>
    refine step (n + 1) fun m e => ?_
    obtain rfl : m = n := by omega
    exact ih
end

/-! ### one thing otherwise -/
def shortS (d : D) : Prop := ∀ z, d = .str z → z.length ≤ 1000
def inB : Nat → Nat → D → Prop
  | 0, n, d => thB n d = true ∧ shortS d
  | k + 1, n, d => thB n d = true ∧ shortS d ∧ ∀ ys, d = .tuple ys → ys.length ≤ 1000 ∧ ∀ y ∈ ys, inB k (n - 1) y
theorem inB.th {k n : Nat} {d : D} (h : inB k n d) : thB n d = true ∧ shortS d := by
  cases k with
  | zero => exact h
  | succ k => exact ⟨h.1, h.2.1⟩
def nearL : List D := [.int 0, .int 1, .int (-1), .int 2, .int 8, .int 9, .int 200, .int 201, .int 400, .int 401, .none, .bool true, .bool false, .str "a", .tuple [], .tuple [.int 1, .int 1], .tuple [.int 2, .int 4], .tuple [.int 0, .int 1], .int 7, .str "cut"]
theorem near_th : (nearL.all fun d => thB 1 d) = true := by decide +kernel
theorem th_int {n : Nat} (i : Int) : thB n (.int i) = true := by
  simp [thB, tame, PyData.canLay0, PyData.depth]
theorem th_str {n : Nat} {z : Str} (h : z.length ≤ 1000000) (k : PyData.strOk z = true) : thB n (.str z) = true := by
  simp [thB, tame, PyData.canLay0, PyData.depth, tameStr, h, k]
theorem strOk_app {x y : Str} (h : PyData.strOk x = true) (k : PyData.strOk y = true) : PyData.strOk (x ++ y) = true := by
  have e : (x ++ y).cps = x.cps ++ y.cps := rfl
  unfold PyData.strOk at *
  rw [e, Array.all_append, h, k]
  rfl
theorem th_str_ok {n : Nat} {z : Str} (h : thB n (.str z) = true) : PyData.strOk z = true := by
  unfold thB at h
  rw [Bool.and_eq_true, Bool.and_eq_true, PyData.canLay0] at h
  exact h.2.1
theorem th_tup {n : Nat} {ds : List D} (h : thB n (.tuple ds) = true) : thB n (.list ds) = true := by
  unfold thB at *
  rw [tame, PyData.canLay0, PyData.depth] at *
  exact h
theorem shaped_th {n : Nat} {ds : List D} (hn : n ≤ 18) (hl : ds.length ≤ 1000000) (h : ∀ d ∈ ds, thB n d = true) : SeqAt.shaped (.list ds) = true := (thB_th (n := n + 1) (by omega) (thB_list hl h).1).sh
theorem nd_th {n : Nat} {d : D} (h : thB n d = true) : nd d = true := tame_nd (by unfold thB at h; rw [Bool.and_eq_true] at h; exact h.1)
theorem eqv_lnil (ds : List D) : PyData.eqv (.list ds) (.list []) = decide (ds = []) := by
  cases ds with
  | nil => simp [PyData.eqv, PyData.eqvAll]
  | cons d ds => simp [PyData.eqv, PyData.eqvAll]
section
variable {P : Program} {w : World} {K : PySem.W.Frag} {mg : Str → Option Value} {base : Heap}
def sp_oth (k n : Nat) : DSp := fun ss Q _ => ∃ p ds xs, ss = [.mo p (.lst ds), .va (.tuple xs), .va (.int (k : Nat))] ∧ WellOk ds ∧ xs.length ≤ 1000 ∧ (∀ x ∈ xs, inB k n x) ∧ ∀ ds' d, WellOk ds' → thB (n + 1) d = true → Q false d [.mo p (.lst ds'), .va (.tuple xs), .va (.int (k : Nat))]
set_option maxHeartbeats 2000000 in
theorem ok_law_otherwise {f : Addr} {fd : FuncData} (B : Bare mg) (ck : Cal P w K mg base "_law_take" 1 ["well", "many"] sp_take) (ct : ∀ n, Cal P w K mg base "_law_thing" (n + 2) ["well", "deep"] (sp_thing n)) (F : Fun K "_law_otherwise" "_law_otherwise" s_law_otherwise f fd) (hm : mg "_law_otherwise" = some (.ref f)) (hb : Binds K fd ["well", "thing", "deep"] []) : ∀ k n, k + 2 ≤ n → n ≤ 15 → Cal P w K mg base "_law_otherwise" (k + 5) ["well", "thing", "deep"] (sp_oth k n) := by
  have step : ∀ k n, k + 2 ≤ n → n ≤ 15 → (∀ j, k = j + 1 → Cal P w K mg base "_law_otherwise" (j + 5) ["well", "thing", "deep"] (sp_oth j (n - 1))) → Cal P w K mg base "_law_otherwise" (k + 5) ["well", "thing", "deep"] (sp_oth k n) := by
    intro k n hkn hn ih
    refine fn_ok F hm hb sc_law_otherwise (by rintro ss P W ⟨_, _, _, rfl, _⟩; rfl) ?_
    rintro cdv A outer s H E hr ss Q W ⟨p, ds, xs, rfl, hw, lx, hx, q⟩
    have gd : ∀ {ρ : List Sl} {m : MO}, ρ[0]? = some (.mo p m) → ∀ as : List Arg, slotsOf as = [0] → GoodArgs ρ as := fun h as e => ⟨by rw [e]; simp, fun j hj => by rw [e] at hj; rw [List.mem_singleton.mp hj]; exact ⟨p, _, h⟩⟩
    have hxt : ∀ x ∈ xs, thB n x = true := fun x m => (hx x m).th.1
    refine sd_cons (s1_set 3 sc_law_otherwise.nd (vm_own (em_callTy B.list_ PyProof.Rows.boot_list (am_cons (em_var 1 rfl (am_nil (kd_list_tuple ⟨rfl, _, rfl, fun p3 => ?_⟩)))))))
    refine sd_re (ρ' := [.mo p (.lst ds), .va (.tuple xs), .va (.int (k : Nat)), .mo p3 (.lst xs), .no, .no, .no]) rfl ?_
    refine sd_cons (s1_if (tm_view 3 rfl (fz_lst _) (tm_cmp (nomark _) (em_var 3 rfl (em_lst (am_nil ⟨small_line (by simp), rfl, fd_eq hr.units (shaped_th (by omega) (by omega) hxt) (by decide) ⟨_, rfl, fun z => ?_, fun z => sd_nil ?_⟩⟩))))))
    · refine sd_one (s1_ret (em_tup (am_cons (em_callM (ct 1) (hr.mono (by omega)) (zm_s 0 rfl (zm_d (em_int (zm_nil ⟨gd rfl _ rfl, p, ds, 1, rfl, rfl, hw, fun ds2 d hw2 hd => am_nil ⟨small_line (by simp), by rw [List.all_cons, nd_th hd]; rfl, FinP.movas (ds := [.tuple xs, .int (k : Nat)]) rfl (q _ _ hw2 ?_)⟩⟩))))))))
      exact thB_mono (thB_list (n := 1) (ds := [d]) (by simp) fun y m => by rw [List.mem_singleton.mp m]; exact hd).2 (by omega)
    rw [eqv_lnil] at z
    have xne : xs ≠ [] := of_decide_eq_false z
    have x1 : 0 < xs.length := List.length_pos_iff.mpr xne
    refine sd_cons (s1_set 4 sc_law_otherwise.nd (vm_data (em_callM ck (hr.mono (by omega)) (zm_s 0 rfl (zm_d (em_view 3 rfl (fz_lst _) (em_callB B.len PySem.boot_len (am_cons (em_var 3 rfl (am_nil (kd_len_list ⟨rfl, zm_nil ⟨gd rfl _ rfl, p, ds, (xs.length : Int), rfl, hw, by omega, by omega, fun ds3 r hw3 r0 r1 => ?_⟩⟩)))))))))))
    obtain ⟨a, rfl⟩ := Int.eq_ofNat_of_zero_le r0
    have al : a < xs.length := by omega
    obtain ⟨x, hax⟩ : ∃ x, xs[a]? = some x := ⟨_, List.getElem?_eq_getElem al⟩
    have xm := List.mem_of_getElem? hax
    have xt := hxt x xm
    have xnd : nd x = true := tame_nd (by unfold thB at xt; rw [Bool.and_eq_true] at xt; exact xt.1)
    have xi : atI xs ((a : Nat) : Int) = some x := atI_nat hax
    refine sd_re (ρ' := [.mo p (.lst ds3), .va (.tuple xs), .va (.int (k : Nat)), .mo p3 (.lst xs), .va (.int (a : Nat)), .no, .no]) rfl ?_
    have xs3 : xs.length ≤ 3000 := by omega
    have fin : ∀ (ds' ys : List D) (s5 s6 : Sl) (E' : DE), WellOk ds' → ys.length ≤ 3000 → (∀ y ∈ ys, thB n y = true) → E'.rt = FinP [.mo p (.lst ds), .va (.tuple xs), .va (.int (k : Nat))] Q → SD (cxOf (L2N.CX P w) P w K mg base N_law_otherwise "_law_otherwise" (defScope s_law_otherwise) f cdv A outer s H E) [(defBody s_law_otherwise).getLast (by decide)] [.mo p (.lst ds'), .va (.tuple xs), .va (.int (k : Nat)), .mo p3 (.lst ys), .va (.int (a : Nat)), s5, s6] W E' := by
      intro ds' ys s5 s6 E' hw' ly hy hE
      refine sd_freeze 3 rfl (fz_lst _) (sd_one (s1_ret (em_callTy B.tuple_ PyProof.Rows.boot_tuple (am_cons (em_var 3 rfl (am_nil (kd_tuple_list ?_)))))))
      rw [hE]
      exact FinP.movas (ds := [.tuple xs, .int (k : Nat)]) rfl (q _ _ hw' (thB_list (by omega) hy).2)
    -- inside a tuple
    refine sd_cons (s1_if (tm_mono (QT := fun b ρ' => ∃ ds', WellOk ds' ∧ ρ' = [.mo p (.lst ds'), .va (.tuple xs), .va (.int (k : Nat)), .mo p3 (.lst xs), .va (.int (a : Nat)), .no, .no] ∧ (b = true → isTy "tuple" x = true ∧ 0 < k)) (tm_of_um (um_and (tm_val (em_isi (.inr (.inr (.inr (.inl rfl)))) B.isinstance_ B.tuple_ boot_tuple (em_ixOwn 3 rfl (fun _ _ => rfl) (em_var 4 rfl ⟨((a : Nat) : Int), xs, x, rfl, rfl, xi, xnd, _, rfl, fun h1 => ?_, fun h1 => ⟨ds3, hw3, rfl, fun z => Bool.noConfusion z⟩⟩)))))) ?_))
    · refine um_and (tm_cmp (nomark _) (em_var 2 rfl (em_int (fd_gt ⟨_, rfl, fun h2 => ?_, fun h2 => ⟨ds3, hw3, rfl, fun z => Bool.noConfusion z⟩⟩))))
      refine um_and1 (tm_cmp (nomark _) (em_callM ck (hr.mono (by omega)) (zm_s 0 rfl (zm_d (em_int (zm_nil ⟨gd rfl _ rfl, p, ds3, 4, rfl, hw3, by decide, by decide, fun ds4 r hw4 r40 r41 => em_int (fd_gt ⟨_, rfl, ds4, hw4, rfl, fun _ => ⟨h1, ?_⟩⟩)⟩))))))
      have := of_decide_eq_true h2
      omega
    rintro b ρ' ⟨ds4, hw4, rfl, hb4⟩
    refine ⟨fun hb5 => ?_, fun _ => sd_nil ?_⟩
    · obtain ⟨ht, k0⟩ := hb4 hb5
      obtain ⟨j, rfl⟩ : ∃ j, k = j + 1 := ⟨k - 1, by omega⟩
      obtain ⟨ys, rfl⟩ : ∃ ys, x = .tuple ys := by
        cases x with
        | tuple ys => exact ⟨ys, rfl⟩
        | bool b => exact absurd ht (by show ¬ ((("bool" : String) == "tuple") || (("int" : String) == "tuple")) = true; decide)
        | _ => exact absurd ht (by simp [isTy, tyD])
      obtain ⟨_, _, hin⟩ := hx _ xm
      obtain ⟨ly, hy⟩ := hin ys rfl
      refine sd_cons (s1_setItem 3 rfl (em_callM (ih j rfl) (hr.mono (by omega)) (zm_s 0 rfl (zm_d (em_ixOwn 3 rfl (fun _ _ => rfl) (em_var 4 rfl ⟨((a : Nat) : Int), xs, .tuple ys, rfl, rfl, xi, zm_d (em_bin (em_var 2 rfl (em_int (fd_sub_int (zm_nil ⟨gd rfl _ rfl, p, ds4, ys, ?_, hw4, ly, hy, fun ds5 d hw5 hd => ⟨?_, xs, rfl, em_var 4 rfl ⟨xs, a, rfl, rfl, al, ?_⟩⟩⟩)))))⟩))))))
      · exact congrArg (fun z => [Sl.mo p (MO.lst ds4), Sl.va (PyData.tuple ys), Sl.va (PyData.int z)]) (by omega)
      · unfold thB at hd
        rw [Bool.and_eq_true] at hd
        exact tame_nd hd.1
      refine sd_re (ρ' := [.mo p (.lst ds5), .va (.tuple xs), .va (.int ((j + 1 : Nat) : Int)), .mo p3 (.lst (xs.set a d)), .va (.int (a : Nat)), .no, .no]) rfl ?_
      refine sd_freeze 3 rfl (fz_lst _) (sd_one (s1_ret (em_callTy B.tuple_ PyProof.Rows.boot_tuple (am_cons (em_var 3 rfl (am_nil (kd_tuple_list (FinP.movas (ds := [.tuple xs, .int ((j + 1 : Nat) : Int)]) rfl (q _ _ hw5 (thB_list (n := n) (by rw [List.length_set]; omega) fun y m => ?_).2)))))))))
      rcases List.mem_or_eq_of_mem_set m with m | rfl
      · exact hxt y m
      · exact thB_mono hd (by omega)
    -- the way
    refine sd_cons (s1_set 5 sc_law_otherwise.nd (vm_data (em_callM ck (hr.mono (by omega)) (zm_s 0 rfl (zm_d (em_int (zm_nil ⟨gd rfl _ rfl, p, ds4, 9, rfl, hw4, by decide, by decide, fun ds5 way hw5 w0 w1 => ?_⟩)))))))
    refine sd_re (ρ' := [.mo p (.lst ds5), .va (.tuple xs), .va (.int (k : Nat)), .mo p3 (.lst xs), .va (.int (a : Nat)), .va (.int way), .no]) rfl ?_
    refine sd_cut (fun ρ => ∃ ds' ys s5 s6, WellOk ds' ∧ ys.length ≤ 3000 ∧ (∀ y ∈ ys, thB n y = true) ∧ ρ = [.mo p (.lst ds'), .va (.tuple xs), .va (.int (k : Nat)), .mo p3 (.lst ys), .va (.int (a : Nat)), s5, s6]) ?_ fun ρ ⟨ds', ys, s5, s6, hw', ly, hy, e⟩ => by subst e; exact fin _ _ _ _ _ hw' ly hy rfl
    -- pop
    refine s1_if (tm_cmp (nomark _) (em_var 5 rfl (em_int (fd_eq_int ⟨_, rfl, fun _ => ?_, fun _ => sd_one ?_⟩))))
    · exact sd_one (s1_expr (em_popAt 3 rfl (em_var 4 rfl ⟨xs, a, x, rfl, rfl, small_line (by omega), hax, ⟨ds5, xs.eraseIdx a, _, _, hw5, Nat.le_trans (List.length_eraseIdx_le _ _) xs3, fun y m => hxt y ((List.eraseIdx_sublist xs a).subset m), rfl⟩⟩)))
    -- insert
    refine s1_if (tm_cmp (nomark _) (em_var 5 rfl (em_int (fd_eq_int ⟨_, rfl, fun _ => ?_, fun _ => sd_one ?_⟩))))
    · refine sd_one (s1_expr (em_insert 3 rfl (em_var 4 rfl ⟨a, rfl, by omega, em_ixOwn 3 rfl (fun _ _ => rfl) (em_var 4 rfl ⟨((a : Nat) : Int), xs, x, rfl, rfl, xi, xnd, xs, rfl, Nat.lt_of_lt_of_le (by omega) (small_line (n := 1000000) (by omega)), ⟨ds5, _, _, _, hw5, ?_, fun y m => ?_, rfl⟩⟩)⟩)))
      · rw [List.length_append, List.length_append, List.length_take, List.length_drop]
        simp
        omega
      · rcases List.mem_append.mp m with m | m
        · rcases List.mem_append.mp m with m | m
          · exact hxt y (List.mem_of_mem_take m)
          · rw [List.mem_singleton.mp m]; exact xt
        · exact hxt y (List.mem_of_mem_drop m)
    -- two exchanged
    refine s1_if (tm_cmp (nomark _) (em_var 5 rfl (em_int (fd_eq_int ⟨_, rfl, fun _ => ?_, fun _ => sd_one ?_⟩))))
    · have ec : cut xs (some ((a : Nat) : Int)) (some (((a : Nat) : Int) + 2)) = (xs.take (a + 2)).drop a := cut_mid xs a (a + 2)
      refine sd_one (s1_setSlice 3 rfl (em_revL (em_slOwn 3 rfl (om_some (em_var 4 rfl ⟨_, rfl, om_some (em_bin (em_var 4 rfl (em_int (fd_add_int ⟨_, rfl, xs, rfl, _, rfl, _, xs, rfl, rfl, ?_⟩))))⟩)))))
      rw [ec]
      refine em_var 4 rfl ⟨a, rfl, em_bin (em_var 4 rfl (em_int (fd_add_int ⟨a + 2, xs, rfl, rfl, by omega, by omega, ?_, ⟨ds5, _, _, _, hw5, ?_, fun y m => ?_, rfl⟩⟩)))⟩
      · rw [List.length_reverse, List.length_drop, List.length_take, sizeLine_eq]
        omega
      · rw [List.length_append, List.length_append, List.length_reverse, List.length_drop, List.length_take, List.length_take, List.length_drop]
        omega
      · rcases List.mem_append.mp m with m | m
        · rcases List.mem_append.mp m with m | m
          · exact hxt y (List.mem_of_mem_take m)
          · exact hxt y (List.mem_of_mem_take (List.mem_of_mem_drop (List.mem_reverse.mp m)))
        · exact hxt y (List.mem_of_mem_drop m)
    have set1 : ∀ d, thB n d = true → ∀ y ∈ xs.set a d, thB n y = true := fun d hd y m => by
      rcases List.mem_or_eq_of_mem_set m with m | rfl
      · exact hxt y m
      · exact hd
    have setl : ∀ d, (xs.set a d).length ≤ 3000 := fun d => by rw [List.length_set]; omega
    -- anything
    refine s1_if (tm_cmp (nomark _) (em_var 5 rfl (em_int (fd_eq_int ⟨_, rfl, fun _ => ?_, fun _ => sd_one ?_⟩))))
    · exact sd_one (s1_setItem 3 rfl (em_callM (ct 2) (hr.mono (by omega)) (zm_s 0 rfl (zm_d (em_int (zm_nil ⟨gd rfl _ rfl, p, ds5, 2, rfl, rfl, hw5, fun ds6 d hw6 hd => ⟨nd_th hd, xs, rfl, em_var 4 rfl ⟨xs, a, rfl, rfl, al, ⟨ds6, _, _, _, hw6, setl d, set1 d (thB_mono hd (by omega)), rfl⟩⟩⟩⟩))))))
    -- something near
    refine s1_if (tm_mono (QT := fun b ρ' => ρ' = [.mo p (.lst ds5), .va (.tuple xs), .va (.int (k : Nat)), .mo p3 (.lst xs), .va (.int (a : Nat)), .va (.int way), .no]) (tm_of_um (um_or (tm_cmp (nomark _) (em_var 5 rfl (em_int (fd_eq_int ⟨_, rfl, fun _ => um_or1 (tm_cmp (nomark _) (em_var 5 rfl (em_int (fd_eq_int ⟨_, rfl, rfl⟩)))), fun _ => rfl⟩)))))) ?_)
    rintro b ρ' rfl
    refine ⟨fun _ => ?_, fun _ => sd_one ?_⟩
    · refine sd_cons (s1_set 6 sc_law_otherwise.nd (vm_data (em_lst ?_)))
      repeat (first | walk_at "e" | refine ⟨small_line (by simp), rfl, ?_⟩)
      refine sd_re (ρ' := [.mo p (.lst ds5), .va (.tuple xs), .va (.int (k : Nat)), .mo p3 (.lst xs), .va (.int (a : Nat)), .va (.int way), .va (.list nearL)]) rfl ?_
      refine sd_one (s1_setItem 3 rfl (em_ix (fun _ _ => rfl) (em_var 6 rfl (em_callM ck (hr.mono (by omega)) (zm_s 0 rfl (zm_d (em_int (zm_nil ⟨gd rfl _ rfl, p, ds5, 20, rfl, hw5, by decide, by decide, fun ds6 r hw6 r60 r61 => ?_⟩))))))))
      have hr2 : r.toNat < nearL.length := by rw [show nearL.length = 20 from rfl]; omega
      have hn2 := List.all_eq_true.mp near_th _ (List.getElem_mem hr2)
      refine id_list (d := nearL[r.toNat]) (atI_of r60 (List.getElem?_eq_getElem hr2)) ⟨nd_th hn2, xs, rfl, em_var 4 rfl ⟨xs, a, rfl, rfl, al, ⟨ds6, _, _, _, hw6, setl _, set1 _ (thB_mono hn2 (by omega)), rfl⟩⟩⟩
    -- a number
    refine s1_if (tm_mono (QT := fun b ρ' => ρ' = [.mo p (.lst ds5), .va (.tuple xs), .va (.int (k : Nat)), .mo p3 (.lst xs), .va (.int (a : Nat)), .va (.int way), .no] ∧ (b = true → isTy "int" x = true ∧ isTy "bool" x = false)) (tm_of_um (um_and (tm_cmp (nomark _) (em_var 5 rfl (em_int (fd_eq_int ⟨_, rfl, fun _ => ?_, fun _ => ⟨rfl, fun z => Bool.noConfusion z⟩⟩)))))) ?_)
    · refine um_and (tm_val (em_isi (.inl rfl) B.isinstance_ B.int_ boot_int (em_ixOwn 3 rfl (fun _ _ => rfl) (em_var 4 rfl ⟨((a : Nat) : Int), xs, x, rfl, rfl, xi, xnd, _, rfl, fun h1 => ?_, fun h1 => ⟨rfl, fun z => Bool.noConfusion z⟩⟩))))
      exact um_and1 (tm_not (tm_val (em_isi (.inr (.inl rfl)) B.isinstance_ B.bool_ boot_bool (em_ixOwn 3 rfl (fun _ _ => rfl) (em_var 4 rfl ⟨((a : Nat) : Int), xs, x, rfl, rfl, xi, xnd, _, rfl, rfl, fun h2 => ⟨h1, by simpa using h2⟩⟩)))))
    rintro b ρ' ⟨rfl, hb6⟩
    refine ⟨fun hb7 => ?_, fun _ => sd_one ?_⟩
    · obtain ⟨i1, i2⟩ := hb6 hb7
      obtain ⟨v, rfl⟩ : ∃ v, x = .int v := by
        cases x with
        | int v => exact ⟨v, rfl⟩
        | bool b => exact absurd i2 (by simp [isTy])
        | _ => exact absurd i1 (by simp [isTy, tyD])
      refine sd_one (s1_setItem 3 rfl (em_bin (em_ixOwn 3 rfl (fun _ _ => rfl) (em_var 4 rfl ⟨((a : Nat) : Int), xs, .int v, rfl, rfl, xi, em_ix (fun _ _ => rfl) (em_lst ?_)⟩))))
      repeat walk_at "e"
      refine ⟨small_line (by simp), rfl, em_callM ck (hr.mono (by omega)) (zm_s 0 rfl (zm_d (em_int (zm_nil ⟨gd rfl _ rfl, p, ds5, 4, rfl, hw5, by decide, by decide, fun ds6 r hw6 r60 r61 => ?_⟩))))⟩
      obtain ⟨e, he⟩ : ∃ e : Int, atI [PyData.int 1, .int (-1), .int 8, .int (-12)] r = some (.int e) := by
        have : r = 0 ∨ r = 1 ∨ r = 2 ∨ r = 3 := by omega
        rcases this with rfl | rfl | rfl | rfl <;> exact ⟨_, rfl⟩
      exact id_list he (fd_add_int ⟨rfl, xs, rfl, em_var 4 rfl ⟨xs, a, rfl, rfl, al, ⟨ds6, _, _, _, hw6, setl _, set1 _ (th_int _), rfl⟩⟩⟩)
    -- a list of a tuple
    refine s1_if (tm_mono (QT := fun b ρ' => ρ' = [.mo p (.lst ds5), .va (.tuple xs), .va (.int (k : Nat)), .mo p3 (.lst xs), .va (.int (a : Nat)), .va (.int way), .no] ∧ (b = true → isTy "tuple" x = true)) (tm_of_um (um_and (tm_cmp (nomark _) (em_var 5 rfl (em_int (fd_eq_int ⟨_, rfl, fun _ => ?_, fun _ => ⟨rfl, fun z => Bool.noConfusion z⟩⟩)))))) ?_)
    · exact um_and1 (tm_val (em_isi (.inr (.inr (.inr (.inl rfl)))) B.isinstance_ B.tuple_ boot_tuple (em_ixOwn 3 rfl (fun _ _ => rfl) (em_var 4 rfl ⟨((a : Nat) : Int), xs, x, rfl, rfl, xi, xnd, _, rfl, rfl, fun h1 => h1⟩))))
    rintro b ρ' ⟨rfl, hb8⟩
    refine ⟨fun hb9 => ?_, fun _ => sd_one ?_⟩
    · have i1 := hb8 hb9
      obtain ⟨ys, rfl⟩ : ∃ ys, x = .tuple ys := by
        cases x with
        | tuple ys => exact ⟨ys, rfl⟩
        | bool b => exact absurd i1 (by simp [isTy])
        | _ => exact absurd i1 (by simp [isTy, tyD])
      exact sd_one (s1_setItem 3 rfl (em_callTy B.list_ PyProof.Rows.boot_list (am_cons (em_ixOwn 3 rfl (fun _ _ => rfl) (em_var 4 rfl ⟨((a : Nat) : Int), xs, .tuple ys, rfl, rfl, xi, am_nil (kd_list_tuple ⟨rfl, xs, rfl, em_var 4 rfl ⟨xs, a, rfl, rfl, al, ⟨ds5, _, _, _, hw5, setl _, set1 _ (th_tup xt), rfl⟩⟩⟩)⟩)))))
    -- a text made longer
    refine s1_if (tm_mono (QT := fun b ρ' => ρ' = [.mo p (.lst ds5), .va (.tuple xs), .va (.int (k : Nat)), .mo p3 (.lst xs), .va (.int (a : Nat)), .va (.int way), .no] ∧ (b = true → isTy "str" x = true)) (tm_of_um (um_and (tm_cmp (nomark _) (em_var 5 rfl (em_int (fd_eq_int ⟨_, rfl, fun _ => ?_, fun _ => ⟨rfl, fun z => Bool.noConfusion z⟩⟩)))))) ?_)
    · exact um_and1 (tm_val (em_isi (.inr (.inr (.inl rfl))) B.isinstance_ B.str_ boot_str (em_ixOwn 3 rfl (fun _ _ => rfl) (em_var 4 rfl ⟨((a : Nat) : Int), xs, x, rfl, rfl, xi, xnd, _, rfl, rfl, fun h1 => h1⟩))))
    rintro b ρ' ⟨rfl, hb10⟩
    refine ⟨fun hb11 => ?_, fun _ => ?_⟩
    · have i1 := hb10 hb11
      obtain ⟨z, rfl⟩ : ∃ z, x = .str z := by
        cases x with
        | str z => exact ⟨z, rfl⟩
        | bool b => exact absurd i1 (by simp [isTy])
        | _ => exact absurd i1 (by simp [isTy, tyD])
      have zl := (hx _ xm).th.2 z rfl
      refine sd_one (s1_setItem 3 rfl (em_bin (em_ixOwn 3 rfl (fun _ _ => rfl) (em_var 4 rfl ⟨((a : Nat) : Int), xs, .str z, rfl, rfl, xi, em_ix (fun _ _ => rfl) (em_lst ?_)⟩))))
      repeat walk_at "e"
      refine ⟨small_line (by simp), rfl, em_callM ck (hr.mono (by omega)) (zm_s 0 rfl (zm_d (em_int (zm_nil ⟨gd rfl _ rfl, p, ds5, 4, rfl, hw5, by decide, by decide, fun ds6 r hw6 r60 r61 => ?_⟩))))⟩
      obtain ⟨e, he, el, ek⟩ : ∃ e : Str, atI [PyData.str "a", .str "A", .str " ", .str "bbbbbbbb"] r = some (.str e) ∧ e.length ≤ 8 ∧ PyData.strOk e = true := by
        have : r = 0 ∨ r = 1 ∨ r = 2 ∨ r = 3 := by omega
        rcases this with rfl | rfl | rfl | rfl <;> exact ⟨_, rfl, by decide +kernel, by decide +kernel⟩
      have le : (z ++ e).length = z.length + e.length := Array.size_append
      exact id_list he (fd_add_str (small_line (by omega)) ⟨rfl, xs, rfl, em_var 4 rfl ⟨xs, a, rfl, rfl, al, ⟨ds6, _, _, _, hw6, setl _, set1 _ (th_str (by omega) (strOk_app (th_str_ok xt) ek)), rfl⟩⟩⟩)
    -- the list itself
    refine sd_freeze 3 rfl (fz_lst _) (sd_one (s1_ret (em_var 3 rfl (FinP.movas (ds := [.tuple xs, .int (k : Nat)]) rfl (q _ _ hw5 (thB_list (by omega) hxt).1)))))
  intro k
  induction k with
  | zero => exact fun n h1 h2 => step 0 n h1 h2 fun j e => by omega
  | succ k ih =>
    intro n h1 h2
    refine step (k + 1) n h1 h2 fun j e => ?_
    obtain rfl : j = k := by omega
    exact ih (n - 1) (by omega) (by omega)
end

/-! ### reached, closed_lot -/
def stP (e : ST) : D := stD e.1 e.2
def rcK (F : List ST) : List (NestedKey × D) := F.map fun e => (stK e.1 e.2, .bool true)
theorem rcK_val (F : List ST) (e : ST) : (valD (rcK F) (stK e.1 e.2)).isSome = decide (e ∈ F) := by
  unfold valD fnd rcK
  rw [Option.isSome_map, Bool.eq_iff_iff, List.find?_isSome, decide_eq_true_eq]
  constructor
  · rintro ⟨x, m, c⟩
    obtain ⟨y, my, rfl⟩ := List.mem_map.mp m
    obtain ⟨e1, e2⟩ := stK_inj (of_decide_eq_true c)
    rwa [show e = y from Prod.ext e1.symm e2.symm]
  · intro m
    exact ⟨_, List.mem_map.mpr ⟨e, m, rfl⟩, decide_eq_true rfl⟩
theorem rcK_put {F : List ST} {e : ST} (m : e ∉ F) : putD (rcK F) (stK e.1 e.2) (.bool true) = rcK (F ++ [e]) := by
  have h0 : valD (rcK F) (stK e.1 e.2) = none := by
    have := rcK_val F e
    rw [decide_eq_false m] at this
    exact Option.isNone_iff_eq_none.mp (by rw [← Option.not_isSome, this]; rfl)
  rw [putD_new h0]
  unfold rcK
  rw [List.map_append]
  rfl
theorem rcK_ok {h : List (List Nat)} {st F : List ST} (s : RcOk h st F) : KnOk h (fun _ _ => .bool true) (rcK F) := by
  refine ⟨?_, fun x m => ?_⟩
  · unfold rcK
    rw [List.map_map]
    exact List.Pairwise.map _ (fun a b ne e => ne (Prod.ext (stK_inj e).1 (stK_inj e).2)) s.nd
  · obtain ⟨e, me, rfl⟩ := List.mem_map.mp m
    exact ⟨e.1, e.2, s.vs e (List.mem_append_right _ me), rfl⟩
theorem lay_st {e : ST} (h : ∀ c ∈ e.2, c < 0x110000) : PyData.canLay0 (stP e) = true := by
  have h1 : PyData.canLay0 (.str (S e.2)) = true := by rw [PyData.canLay0]; exact strOk_S h
  simp only [stP, stD, plD, tx, PyData.canLay0, PyData.canLayAll0, lay_ints, Bool.and_self, Bool.and_true, Bool.true_and] at h1 ⊢
  exact h1
theorem depth_st (e : ST) : PyData.depth (stP e) ≤ 2 := by
  simp only [stP, stD, plD, tx, PyData.depth, PyData.depthAll, PySem.W.depth_ints]
  decide
theorem shaped_sts {st : List ST} (h : ∀ e ∈ st, ∀ c ∈ e.2, c < 0x110000) : SeqAt.shaped (.list (st.map stP)) = true := by
  unfold SeqAt.shaped
  have a : ∀ st : List ST, (∀ e ∈ st, ∀ c ∈ e.2, c < 0x110000) → PyData.canLayAll0 (st.map stP) = true ∧ PyData.depthAll (st.map stP) ≤ 2 := by
    intro st
    induction st with
    | nil => intro _; exact ⟨by simp [PyData.canLayAll0], by simp [PyData.depthAll]⟩
    | cons e st ih =>
      intro h
      obtain ⟨i1, i2⟩ := ih fun x m => h x (List.mem_cons_of_mem _ m)
      rw [List.map_cons, PyData.canLayAll0, lay_st (h e List.mem_cons_self), i1, PyData.depthAll]
      have := depth_st e
      exact ⟨rfl, by omega⟩
  obtain ⟨a1, a2⟩ := a st h
  rw [PyData.canLay0, a1, PyData.depth]
  simp only [Bool.true_and, decide_eq_true_eq]
  omega
theorem alike_st (L M : ST) : PySem.W.alike (stP L) (stP M) = true := by
  simp [stP, stD, plD, tx, PySem.W.alike, PySem.W.alikeAll, PySem.W.alike_ints]
theorem sorts_st {F : List ST} (h : F.length ≤ sizeLine) : Sorts stP F := ⟨PySem.W.AllAlike.of alike_st, PySem.W.Sortable.tuples fun L => ⟨_, _, rfl⟩, fun L _ => Nat.le_trans (depth_st L) (by decide), h⟩
theorem stKs_inj {a b : ST} (e : stKs a.1 a.2 = stKs b.1 b.2) : a = b := by
  have e2 : stK a.1 a.2 = stK b.1 b.2 := congrArg NestedKey.tup e
  exact Prod.ext (stK_inj e2).1 (stK_inj e2).2
theorem eqv_st {a b : ST} (h : PyData.eqv (stP a) (stP b) = true) : a = b := by
  have e : PyData.eqv (stP a) (stP b) = (PyData.eqv (.tuple (a.1.map .int)) (.tuple (b.1.map .int)) && ((S a.2 == S b.2) && true)) := by
    simp only [stP, stD, plD, tx, PyData.eqv, PyData.eqvAll]
  rw [e, Bool.and_eq_true, Bool.and_true, eqv_intsT, decide_eq_true_eq, beq_iff_eq] at h
  exact Prod.ext h.1 (S_inj.mp h.2)
theorem stP_key (b : ST) : stP b = (NestedKey.tup (stKs b.1 b.2)).data := stK_data b.1 b.2
theorem stP_deep (b : ST) : (NestedKey.tup (stKs b.1 b.2)).depth ≤ 8 := stK_depth b.1 b.2
def srtS (F : List ST) : List ST := F.mergeSort (PySem.W.dataLe false stP)
theorem srtS_perm {l m : List ST} (p : l.Perm m) : srtS l = srtS m := perm_sort alike_st (fun _ _ => eqv_st) p
section
variable {P : Program} {w : World} {K : PySem.W.Frag} {mg : Str → Option Value} {base : Heap}
def sp_reached : DSp := fun ss Q _ => ∃ h, ss = [.va (hpD h)] ∧ Hv h ∧ ∀ F : List ST, F.Nodup → (∀ e, e ∈ F ↔ Come h e) → F.length ≤ 1000000 → (F.any fun e => isE h e.1 e.2) = decide (manyW h ≠ 0) → Q true (.list ((srtS F).map stP)) ss
def sp_closed_lot : DSp := fun ss Q _ => ∃ h, ss = [.va (hpD h)] ∧ Hv h ∧ (manyW h ≠ 0 → Q false .none ss) ∧ (manyW h = 0 → ∀ F : List ST, F.Nodup → (∀ e, e ∈ F ↔ Come h e) → Q false (.tuple ((srtS F).map stP)) ss)
end

/-! ### _law_next: a set of nested tuples -/
theorem pre_take {r s : List Nat} : (r.take (min r.length s.length) = s.take (min r.length s.length)) ↔ (s.isPrefixOf r = true ∨ r.isPrefixOf s = true) := by
  rcases Nat.le_total r.length s.length with c | c
  · rw [Nat.min_eq_left c, List.take_length]
    constructor
    · intro e
      right
      rw [List.isPrefixOf_iff_prefix, e]
      exact List.take_prefix _ _
    · rintro (e | e)
      · rw [List.isPrefixOf_iff_prefix] at e
        have := e.eq_of_length_le c
        rw [this, List.take_length]
      · rw [List.isPrefixOf_iff_prefix] at e
        exact List.prefix_iff_eq_take.mp e
  · rw [Nat.min_eq_right c, List.take_length]
    constructor
    · intro e
      left
      rw [List.isPrefixOf_iff_prefix, ← e]
      exact List.take_prefix _ _
    · rintro (e | e)
      · rw [List.isPrefixOf_iff_prefix] at e
        exact (List.prefix_iff_eq_take.mp e).symm
      · rw [List.isPrefixOf_iff_prefix] at e
        have := e.eq_of_length_le c
        rw [this, List.take_length]
theorem lo_take {r s : List Nat} : lo r s = if r.take (min r.length s.length) = s.take (min r.length s.length) then some (r.drop (min r.length s.length) ++ s.drop (min r.length s.length)) else none := by
  by_cases e : r.take (min r.length s.length) = s.take (min r.length s.length)
  · rw [if_pos e]
    have e2 := pre_take.mp e
    unfold lo
    by_cases a : s.isPrefixOf r = true
    · rw [if_pos a]
      have l := (List.isPrefixOf_iff_prefix.mp a).length_le
      rw [Nat.min_eq_right l, List.drop_length, List.append_nil]
    · rcases e2 with b | b
      · exact absurd b a
      · rw [if_neg a, if_pos b]
        have l := (List.isPrefixOf_iff_prefix.mp b).length_le
        rw [Nat.min_eq_left l, List.drop_length, List.nil_append]
  · rw [if_neg e]
    have e2 := fun z => e (pre_take.mpr z)
    unfold lo
    rw [if_neg fun z => e2 (.inl z), if_neg fun z => e2 (.inr z)]
section
variable {P : Program} {w : World} {K : PySem.W.Frag} {mg : Str → Option Value} {base : Heap}
def sp_lnext : DSp := fun ss Q _ => ∃ h u r, ss = [.va (hpD h), .va (stD u r)] ∧ Small h ∧ u.length ≤ 100 ∧ r.length ≤ 100 ∧ ∀ l : List ST, l.Nodup → (∀ x, x ∈ l ↔ x ∈ kidR h (u, r)) → Q true (.list ((srtS l).map stP)) ss
set_option maxHeartbeats 1000000 in
theorem ok_law_next {f : Addr} {fd : FuncData} (B : Bare mg) (F : Fun K "_law_next" "_law_next" s_law_next f fd) (hm : mg "_law_next" = some (.ref f)) (hb : Binds K fd ["heap", "standing"] []) : Cal P w K mg base "_law_next" 1 ["heap", "standing"] sp_lnext := by
  refine fn_ok F hm hb sc_law_next (by rintro ss P W ⟨_, _, _, rfl, _⟩; rfl) ?_
  rintro cdv A outer s H E hr ss Q W ⟨h, u, r, rfl, hs, hu, hl, q⟩
  have hlen := hs.len
  refine sd_cons (s1_unpack (.tp [.nm 2, .nm 3]) (pg_tp rfl (pgs_1 (pg_nm sc_law_next.nd) (pgs_1 (pg_nm sc_law_next.nd) pgs_0))) (em_var 1 rfl ⟨_, rfl, ?_⟩))
  refine sd_cons (s1_set 4 sc_law_next.nd (vm_own (em_lst (am_nil ⟨small_line (by simp), rfl, rfl, [], rfl, fun p => ?_⟩))))
  refine sd_cons (s1_for (.tp [.nm 5, .nm 6]) (passes_of rfl) rfl (pg_tp rfl (pgs_1 (pg_nm sc_law_next.nd) (pgs_1 (pg_nm sc_law_next.nd) pgs_0))) (im_enumT B.enumerate_ (em_var 0 rfl ⟨_, rfl, ?_⟩)))
  refine ⟨fun i ρ => ∃ s5 s6 s7, ρ = [.va (hpD h), .va (stD u r), .va (plD u), .va (tx r), .mo p (.lst (((List.range i).filterMap (nx1 h u r)).map fun x => stP x.2)), s5, s6, s7], ⟨_, _, _, rfl⟩, ?_, ?_⟩
  · rintro i d ρ2 hd ⟨s5, s6, s7, rfl⟩
    have hi : i < h.length := by
      have := (List.getElem?_eq_some_iff.mp hd).1
      rwa [enumD_len, List.length_map] at this
    have hsh : (h.map tx)[i]? = some (tx (shr h i)) := by
      rw [List.getElem?_map, show h[i]? = some (shr h i) from shr_at (i := (i : Int)) (by omega) (by omega)]
      rfl
    rw [enumD_at hsh] at hd
    cases hd
    refine ⟨_, rfl, ?_⟩
    have hsl := shr_le hs (i : Int)
    have le : (((List.range i).filterMap (nx1 h u r)).map fun x => stP x.2).length ≤ 9 := by
      rw [List.length_map]
      refine Nat.le_trans (List.length_filterMap_le _ _) ?_
      rw [List.length_range]
      omega
    have sk : nx1 h u r i = none → ∀ s5 s6 s7, ∃ a b c, [.va (hpD h), .va (stD u r), .va (plD u), .va (tx r), .mo p (.lst (((List.range i).filterMap (nx1 h u r)).map fun x => stP x.2)), s5, s6, s7] = [.va (hpD h), .va (stD u r), .va (plD u), .va (tx r), Sl.mo p (.lst (((List.range (i + 1)).filterMap (nx1 h u r)).map fun x => stP x.2)), a, b, c] := fun e s5 s6 s7 => ⟨s5, s6, s7, by rw [List.range_succ, List.filterMap_append, List.filterMap_cons_none e, List.filterMap_nil, List.append_nil]⟩
    refine sd_one (s1_if (tm_of_um (um_and (tm_cmp rfl (em_var 3 rfl (em_str (fd_ne_str ⟨_, rfl, fun k1 => ?_, fun k1 => ⟨fun z => (Bool.noConfusion z), fun _ => sd_nil ?_⟩⟩)))))))
    · refine um_and1 (tm_cmp rfl (em_var 5 rfl (em_var 2 rfl (fd_notIn_tuple (room65 hr) (shaped_int i) (shaped_ints u) ⟨_, rfl, fun k2 => ?_, fun k2 => sd_nil ?_⟩))))
      · have hne : r ≠ [] := by
          rw [S_nil] at k1
          simpa using k1
        have hni : (i : Int) ∉ u := by
          rw [any_ints] at k2
          simpa using k2
        have l1 : (S r).length ≤ sizeLine := by rw [S_len]; exact small_line (by omega)
        have l2 : (S (shr h i)).length ≤ sizeLine := by rw [S_len]; exact small_line (by omega)
        refine sd_cons (s1_set 7 sc_law_next.nd (vm_data (em_callB B.min_ PyProof.Rows.boot_min (am_cons (em_callB B.len PySem.boot_len (am_cons (em_var 3 rfl (am_nil (kd_len_str l1 (am_cons (em_callB B.len PySem.boot_len (am_cons (em_var 6 rfl (am_nil (kd_len_str l2 (am_nil (kd_min2 rfl ?_)))))))))))))))))
        have em : (if ((S (shr h i)).length : Int) < ((S r).length : Int) then ((S (shr h i)).length : Int) else ((S r).length : Int)) = ((min r.length (shr h i).length : Nat) : Int) := by
          rw [S_len, S_len]
          split <;> omega
        rw [em]
        have lm := lo_take (r := r) (s := shr h i)
        generalize hmm : min r.length (shr h i).length = mm at lm ⊢
        refine sd_one (s1_if (tm_cmp (nomark _) (em_sl (em_var 3 rfl (om_none (om_some (em_var 7 rfl ⟨_, rfl, ld_str l1 (em_sl (em_var 6 rfl (om_none (om_some (em_var 7 rfl ⟨_, rfl, ld_str l2 (fd_eq_str ⟨_, rfl, fun k3 => ?_, fun k3 => sd_nil ?_⟩)⟩)))))⟩)))))))
        · rw [cutS_S, cutS_S, cut_take, cut_take] at k3
          have k3' : r.take mm = (shr h i).take mm := S_inj.mp (of_decide_eq_true k3)
          rw [if_pos k3'] at lm
          refine sd_one (s1_expr (em_append 4 rfl ?_))
          refine em_tup (am_cons (em_callTy B.tuple_ PyProof.Rows.boot_tuple (am_cons (em_callB B.sorted_ PyProof.Rows.boot_sorted (am_cons (em_bin (em_var 2 rfl (em_tup (am_cons (em_var 5 rfl (am_nil ⟨small_line (by simp), rfl, fd_add_tuple (small_line (by simp; omega)) (am_nil ?_)⟩)))))))))))
          rw [show u.map PyData.int ++ [PyData.int (i : Nat)] = (u ++ [(i : Int)]).map PyData.int by simp]
          refine kd_sorted_tuple (hr.units) (sorts_int (small_line (by simp; omega))) (am_nil (kd_tuple_list ?_))
          refine am_cons (em_bin (em_sl (em_var 3 rfl (om_some (em_var 7 rfl ⟨_, rfl, om_none (ld_str l1 (em_sl (em_var 6 rfl (om_some (em_var 7 rfl ⟨_, rfl, om_none (ld_str l2 ?_)⟩)))))⟩)))))
          rw [cutS_S, cutS_S, cut_drop, cut_drop]
          refine fd_add_str (small_line (by rw [S_len, S_len, List.length_drop, List.length_drop]; omega)) (am_nil ⟨small_line (by simp), rfl, _, rfl, rfl, Nat.lt_of_le_of_lt le (by rw [sizeLine_eq]; omega), ?_⟩)
          have e1 : nx1 h u r i = some ((i : Int), ins u i, r.drop mm ++ (shr h i).drop mm) := by unfold nx1; rw [if_pos ⟨hne, hni⟩, lm]; rfl
          have e2 : ((List.range (i + 1)).filterMap (nx1 h u r)).map (fun x => stP x.2) = ((List.range i).filterMap (nx1 h u r)).map (fun x => stP x.2) ++ [stP (ins u i, r.drop mm ++ (shr h i).drop mm)] := by
            rw [List.range_succ, List.filterMap_append, List.filterMap_cons_some e1, List.filterMap_nil, List.map_append]
            rfl
          have e3 : stP (ins u i, r.drop mm ++ (shr h i).drop mm) = .tuple [.tuple (((u ++ [(i : Int)]).mergeSort (PySem.W.dataLe false PyData.int)).map PyData.int), .str (S (r.drop mm) ++ S ((shr h i).drop mm))] := by
            rw [dle_int, S_app]
            rfl
          refine ⟨.va (.int (i : Nat)), .va (tx (shr h i)), .va (.int (mm : Nat)), ?_⟩
          rw [e2, e3]
          rfl
        · rw [cutS_S, cutS_S, cut_take, cut_take] at k3
          have k3' : ¬ r.take mm = (shr h i).take mm := fun e => of_decide_eq_false k3 (by rw [e])
          rw [if_neg k3'] at lm
          exact sk (by unfold nx1; rw [lm]; simp) _ _ _
      · have hni : (i : Int) ∈ u := by
          rw [any_ints] at k2
          simpa using k2
        exact sk (by unfold nx1; rw [if_neg fun z => z.2 hni]) _ _ _
    · have hne : r = [] := by
        rw [S_nil] at k1
        simpa using k1
      exact sk (by unfold nx1; rw [if_neg fun z => z.1 hne]) _ _ _
  · rintro ρ2 ⟨s5, s6, s7, rfl⟩
    rw [enumD_len, List.length_map]
    have ek : ((List.range h.length).filterMap (nx1 h u r)).map (fun x => stP x.2) = (kidR h (u, r)).map stP := by
      unfold kidR nexts
      rw [List.map_map]
      rfl
    have kl : (kidR h (u, r)).length ≤ 8 := by
      unfold kidR
      rw [List.length_map]
      have : (nexts h (u, r).1 (u, r).2).length ≤ h.length := nexts_len
      omega
    rw [ek]
    refine sd_freeze 4 rfl (fz_lst _) (sd_one (s1_ret (em_sortedSetN (enc := stP) (dec := fun b => stKs b.1 b.2) stP_key stP_deep (fun _ _ => stKs_inj) alike_st (fun _ _ => eqv_st) rfl hr.units B.sorted_ B.set_ (em_var 4 rfl ⟨kidR h (u, r), rfl, fun l n m => ?_, fun l n m => FinP.va (ds := [hpD h, stD u r]) (q l n m)⟩))))
    have := nodup_le l (kidR h (u, r)) n m
    exact ⟨by omega, sorts_st (small_line (by omega))⟩
end

/-! ### _law_come: all standings that come of beginnings, level by level -/
theorem stKs_tup (e : ST) : NestedKey.tup (stKs e.1 e.2) = stK e.1 e.2 := rfl
theorem putAll_rc : ∀ (lv Fo : List ST), (Fo ++ lv).Nodup → putAll (fun e : ST => stKs e.1 e.2) (fun _ => PyData.bool true) (rcK Fo) lv = rcK (Fo ++ lv)
  | [], Fo, _ => by rw [List.append_nil]; rfl
  | e :: lv, Fo, n => by
    have ne : e ∉ Fo := fun m => (List.nodup_append.mp n).2.2 e m e List.mem_cons_self rfl
    show putAll _ _ (putD (rcK Fo) (stK e.1 e.2) (.bool true)) lv = _
    rw [rcK_put ne, putAll_rc lv (Fo ++ [e]) (by rw [List.append_assoc]; exact n), List.append_assoc]
    rfl
theorem kid_le8 {h : List (List Nat)} (sm : Small h) (e : ST) : (kidR h e).length ≤ 8 := by
  unfold kidR
  rw [List.length_map]
  have : (nexts h e.1 e.2).length ≤ h.length := nexts_len
  have := sm.len
  omega
section
variable {P : Program} {w : World} {K : PySem.W.Frag} {mg : Str → Option Value} {base : Heap}
def sp_come : DSp := fun ss Q _ => ∃ h, ss = [.va (hpD h)] ∧ Hv h ∧ ∀ F : List ST, F.Nodup → (∀ e, e ∈ F ↔ Come h e) → Q true (.list ((srtS F).map stP)) ss
set_option maxHeartbeats 2000000 in
theorem ok_law_come {f : Addr} {fd : FuncData} (B : Bare mg) (c1 : Cal P w K mg base "_law_next" 1 ["heap", "standing"] sp_lnext) (F : Fun K "_law_come" "_law_come" s_law_come f fd) (hm : mg "_law_come" = some (.ref f)) (hb : Binds K fd ["heap"] []) : Cal P w K mg base "_law_come" 2 ["heap"] sp_come := by
  refine fn_ok F hm hb sc_law_come (by rintro ss P W ⟨_, rfl, _⟩; rfl) ?_
  rintro cdv A outer s H E hr ss Q W ⟨h, rfl, hv, q⟩
  have hs := hv.small
  have hlen := hs.len
  refine sd_cons (s1_set 1 sc_law_come.nd (vm_newDn fun p1 => ?_))
  refine sd_cons (s1_setFm 2 (.tp [.nm 5, .nm 6]) [("place", 5), ("shred", 6)] rfl sc_law_come.nd (blkOk_by (N := N_law_come) (sc := defScope s_law_come) (by decide +kernel)) (fun _ _ _ _ _ => pg_tp rfl (pgs_1 (pg_nm sc_law_come.nd) (pgs_1 (pg_nm sc_law_come.nd) pgs_0))) (by decide)
    (.map (fun i : Nat => .tuple [.int (i : Nat), (h.map tx).getD i .none]) (fun i => stD [(i : Int)] (shr h i)) (im_enumT B.enumerate_ (em_var 0 rfl ⟨_, rfl, List.range (h.map tx).length, rfl, small_line (by simp; omega), fun i hi => ⟨_, rfl, fun _ _ _ _ _ => ?_⟩, ?_⟩))))
  · have hi' : i < h.length := by simpa using List.mem_range.mp hi
    have et : (h.map tx).getD i PyData.none = tx (shr h i) := by
      unfold shr
      rw [List.getD_eq_getElem?_getD, List.getD_eq_getElem?_getD, List.getElem?_map]
      simp [List.getElem?_eq_getElem hi']
    refine em_tup (am_cons (em_tup (am_cons (em_var 5 rfl (am_nil ⟨small_line (by simp), rfl, ?_⟩)))))
    refine am_cons (em_var 6 rfl (am_nil ⟨small_line (by simp), ?_, rfl, ?_⟩))
    · rw [et]; rfl
    · rw [et]; rfl
  intro p2
  have e0 : (List.range (h.map tx).length).map (fun i : Nat => stD [(i : Int)] (shr h i)) = (begins h).map stP := by
    unfold begins
    rw [List.length_map, List.map_map]
    rfl
  rw [e0]
  refine sd_re (ρ' := [.va (hpD h), .mo p1 (.dn w p1 (rcK [])), .mo p2 (.lst ((begins h).map stP)), .no, .no, .no, .no, .no]) rfl ?_
  refine sd_freeze 2 rfl (fz_lst _) ?_
  refine sd_cons (s1_while (passes_of rfl) (fun n ρ => ∃ lv Fo c s3 s4 s5 s6 s7, LvOk h lv Fo c ∧ n = 10 - c ∧ ρ = [.va (hpD h), .mo p1 (.dn w p1 (rcK Fo)), .va (.list (lv.map stP)), s3, s4, s5, s6, s7]) (10 - 1) ⟨begins h, [], 1, _, _, _, _, _, LvOk.start, rfl, rfl⟩ ?_)
  rintro n ρ ⟨lv, Fo, c, s3, s4, s5, s6, s7, L, rfl, rfl⟩
  have shp : SeqAt.shaped (.list (lv.map stP)) = true := shaped_sts fun e me => hv.sfx ((L.ra e (List.mem_append_right _ me)).vs hs).sf
  have lnF := L.len hs
  rw [List.length_append] at lnF
  refine tm_cmp (nomark _) (em_var 2 rfl (em_lst (am_nil ⟨small_line (by simp), rfl, fd_ne hr.units shp (by decide) ⟨_, rfl, fun k1 => ?_, fun k1 => ?_⟩⟩)))
  · have ne0 : lv ≠ [] := by
      rintro rfl
      simp [PyData.eqv, PyData.eqvAll] at k1
    have c8 := L.le hs ne0
    refine sd_cons (s1_expr (em_updateN (dec := fun e : ST => stKs e.1 e.2) (val := fun _ => PyData.bool true) 1 stP_deep rfl hr.units rfl (em_fm (.nm 4) [("standing", 4)] rfl sc_law_come.nd (blkOk_by (N := N_law_come) (sc := defScope s_law_come) (by decide +kernel)) (fun _ _ _ _ _ => pg_nm sc_law_come.nd) (by decide)
      (.map stP (rowD (fun e : ST => stKs e.1 e.2) (fun _ => PyData.bool true)) (im_list (em_var 2 rfl ⟨_, rfl, lv, rfl, small_line (by omega), fun e me => ⟨_, rfl, fun _ _ _ _ _ => ?_⟩, rcK Fo, lv, rfl, rfl, ?_, ?_⟩))))))
    · exact em_tup (am_cons (em_var 4 rfl (am_cons (em_bool (am_nil ⟨small_line (by simp), rfl, by unfold rowD; rw [← stP_key]; exact ⟨rfl, rfl⟩⟩)))))
    · unfold rcK
      rw [List.length_map]
      exact small_line (by omega)
    rw [putAll_rc lv Fo L.nd]
    refine sd_re (ρ' := [.va (hpD h), .mo p1 (.dn w p1 (rcK (Fo ++ lv))), .va (.list (lv.map stP)), s3, s4, s5, s6, s7]) rfl ?_
    refine sd_cons (s1_set 3 sc_law_come.nd (vm_data (em_lst (am_nil ⟨small_line (by simp), rfl, ?_⟩))))
    refine sd_cons (s1_for (.nm 4) (passes_of rfl) rfl (pg_nm sc_law_come.nd) (im_list (em_var 2 rfl ⟨_, rfl, fun i ρ => ∃ (fl : List ST) (t4 t5 t6 t7 : Sl), (∀ x, x ∈ fl ↔ ∃ e ∈ lv.take i, x ∈ kidR h e ∧ x ∉ Fo ++ lv) ∧ fl.length ≤ 8 * i ∧ ρ = [.va (hpD h), .mo p1 (.dn w p1 (rcK (Fo ++ lv))), .va (.list (lv.map stP)), .va (.list (fl.map stP)), t4, t5, t6, t7], ⟨[], _, _, _, _, fun x => by simp, by simp, rfl⟩, ?_, ?_⟩)))
    · rintro i d ρ2 hd ⟨fl, t4, t5, t6, t7, hfl, lfl, rfl⟩
      rw [List.getElem?_map] at hd
      obtain ⟨e, he, rfl⟩ := Option.map_eq_some_iff.mp hd
      have me : e ∈ lv := List.mem_of_getElem? he
      have il : i < lv.length := (List.getElem?_eq_some_iff.mp he).1
      have ve := (L.ra e (List.mem_append_right _ me)).vs hs
      have ul : e.1.length ≤ 8 := Nat.le_trans (us_len ve.us) hs.len
      have rl := sfx_le hs ve.sf
      refine ⟨_, rfl, ?_⟩
      refine sd_one (s1_set 3 sc_law_come.nd (vm_data (em_bin (em_var 3 rfl (em_fm (.nm 7) [("there", 7)] rfl sc_law_come.nd (blkOk_by (N := N_law_come) (sc := defScope s_law_come) (by decide +kernel)) (fun _ _ _ _ _ => pg_nm sc_law_come.nd) (by decide)
        (.filter stP (fun x => !decide (x ∈ Fo ++ lv)) stP (im_list (em_call c1 (hr.mono (by decide)) (am_cons (em_var 0 rfl (am_cons (em_var 4 rfl (am_nil ⟨W0, fun _ z => z.elim, h, e.1, e.2, rfl, hs, by omega, by omega, fun l nl ml => ⟨_, rfl, srtS l, rfl, ?_, fun x mx => ⟨_, rfl, fun _ _ _ _ _ => ⟨?_, fun _ => em_var 7 rfl ⟨rfl, rfl⟩⟩⟩, ?_⟩⟩)))))))))))))
      · have pl : (srtS l).Perm l := List.mergeSort_perm l _
        rw [pl.length_eq]
        have := nodup_le l (kidR h e) nl fun x mx => (ml x).mp mx
        have := kid_le8 hs e
        exact small_line (by omega)
      · refine tm_nnotin 1 hr.units (em_var 7 rfl ⟨p1, rcK (Fo ++ lv), _, stP_key x, stK_depth x.1 x.2, rfl, ?_⟩)
        rw [stKs_tup, rcK_val]
      · have pl : (srtS l).Perm l := List.mergeSort_perm l _
        have l8 : ((srtS l).filter fun x => !decide (x ∈ Fo ++ lv)).length ≤ 8 := by
          refine Nat.le_trans (List.length_filter_le _ _) ?_
          rw [pl.length_eq]
          exact Nat.le_trans (nodup_le l (kidR h e) nl fun x mx => (ml x).mp mx) (kid_le8 hs e)
        refine fd_add_list (by rw [List.length_map, List.length_map]; exact small_line (by omega)) ?_
        rw [← List.map_append]
        refine ⟨fl ++ (srtS l).filter fun x => !decide (x ∈ Fo ++ lv), _, _, _, _, fun x => ?_, by rw [List.length_append]; omega, rfl⟩
        rw [List.mem_append, hfl x, List.mem_filter, pl.mem_iff, ml x, List.take_add_one, he]
        simp only [Option.toList_some, List.mem_append, List.mem_singleton, Bool.not_eq_true', decide_eq_false_iff_not]
        constructor
        · rintro (⟨y, my, k⟩ | ⟨k1, k2⟩)
          · exact ⟨y, .inl my, k⟩
          · exact ⟨e, .inr rfl, k1, k2⟩
        · rintro ⟨y, my | my, k1, k2⟩
          · exact .inl ⟨y, my, k1, k2⟩
          · subst my
            exact .inr ⟨k1, k2⟩
    · rintro ρ2 ⟨fl, t4, t5, t6, t7, hfl, lfl, rfl⟩
      rw [List.length_map, List.take_length] at hfl
      have few : ∀ l : List ST, l.Nodup → (∀ b ∈ l, b ∈ fl) → l.length ≤ 3360 := fun l n m => L.few hs n fun x mx => by
        obtain ⟨e, me, k, _⟩ := (hfl x).mp (m x mx)
        exact ⟨e, me, k⟩
      refine sd_one (s1_set 2 sc_law_come.nd (vm_data (em_sortedSetN (enc := stP) (dec := fun b => stKs b.1 b.2) stP_key stP_deep (fun _ _ => stKs_inj) alike_st (fun _ _ => eqv_st) rfl hr.units B.sorted_ B.set_ (em_var 3 rfl ⟨fl, rfl, fun l n m => ⟨by have := few l n m; omega, sorts_st (small_line (by have := few l n m; omega))⟩, fun l n m => ?_⟩))))
      have pl : (srtS l).Perm l := List.mergeSort_perm l _
      exact ⟨10 - (c + 1), by omega, srtS l, Fo ++ lv, c + 1, _, _, _, _, _, L.next hs (pl.nodup_iff.mpr n) (fun x => by rw [pl.mem_iff, m x, hfl x]), rfl, rfl⟩
  · have e0 : lv = [] := by
      cases lv with
      | nil => rfl
      | cons e st => simp [PyData.eqv, PyData.eqvAll] at k1
    subst e0
    have ed : (fun b : ST => (stK b.1 b.2).data) = stP := funext fun L => (stK_data L.1 L.2).symm
    obtain ⟨nd, mem⟩ := L.done
    refine sd_one (s1_ret (em_sortedN (bs := Fo) (dec := fun b => stK b.1 b.2) 1 rfl hr.units B.sorted_ rfl (by unfold rcK; rw [List.map_map]; rfl) ?_ (FinP.va (ds := [hpD h]) ?_)))
    · rw [ed]
      exact sorts_st (small_line (by omega))
    · rw [ed]
      exact q Fo nd mem
end

/-! ### is_standing, is_closed: of anything -/
theorem tup_of {d : D} (h : isTy "tuple" d = true) : ∃ ds, d = .tuple ds := by
  cases d with
  | tuple ds => exact ⟨ds, rfl⟩
  | _ => exact absurd h (by simp [isTy, tyD])
def intsZ (d : D) : List Int := match d with
  | .tuple ds => ds.map fun x => match x with | .int i => i | _ => 0
  | _ => []
theorem intsZ_pl (z : List Int) : intsZ (plD z) = z := by
  show (z.map PyData.int).map _ = z
  rw [List.map_map]
  exact List.map_id z
def incZ (z : List Int) : Bool := (List.range (z.length - 1)).all fun k => decide (z.getD k 0 < z.getD (k + 1) 0)
def stB (h : List (List Nat)) (d : D) : Bool := match d with
  | .tuple [a, b] => isPl h.length a && (incZ (intsZ a) && signsOk b 0)
  | _ => false
theorem stB_two {h : List (List Nat)} {a b : D} : stB h (.tuple [a, b]) = (isPl h.length a && (incZ (intsZ a) && signsOk b 0)) := rfl
theorem stB_notup {h : List (List Nat)} {d : D} (l : isTy "tuple" d = false) : stB h d = false := by
  cases d with
  | tuple ds => exact absurd l (by simp [isTy, tyD])
  | _ => rfl
theorem stB_len {h : List (List Nat)} {ds : List D} (l : ds.length ≠ 2) : stB h (.tuple ds) = false := by
  match ds, l with
  | [], _ => rfl
  | [a], _ => rfl
  | [a, b], l => exact absurd rfl l
  | a :: b :: c :: r, _ => rfl
def stOf (d : D) : ST := match d with
  | .tuple [a, .str z] => (intsZ a, z.cps.toList)
  | _ => ([], [])
/-- a standing by its form -/
structure StF (h : List (List Nat)) (e : ST) : Prop where
  ne : e.1 ≠ []
  pl : PlacesOk h e.1
  up : e.1.Pairwise (· < ·)
  ln : e.2.length ≤ 10
  le : ∀ c ∈ e.2, c ∈ lettersL
theorem str_S (z : Str) : z = S z.cps.toList := by
  unfold S
  cases z
  simp
theorem S_list (r : List Nat) : (S r).cps.toList = r := by unfold S; simp
theorem stOf_st (e : ST) : stOf (stP e) = e := by
  show (intsZ (plD e.1), (S e.2).cps.toList) = e
  rw [intsZ_pl, S_list]
theorem stB_is {h : List (List Nat)} {d : D} (b : stB h d = true) : d = stP (stOf d) ∧ StF h (stOf d) := by
  match d, b with
  | .tuple [a, c], b =>
    rw [stB_two, Bool.and_eq_true, Bool.and_eq_true] at b
    obtain ⟨u, rfl, nu, pu⟩ : ∃ X, a = plD X ∧ X ≠ [] ∧ PlacesOk h X := by
      cases a with
      | tuple ds => obtain ⟨z, rfl, zn, zp⟩ := isPl_ints b.1; exact ⟨z, rfl, zn, zp⟩
      | _ => exact absurd b.1 (by simp [isPl])
    obtain ⟨z, rfl⟩ : ∃ z, c = .str z := by
      cases c with
      | str z => exact ⟨z, rfl⟩
      | _ => exact absurd b.2.2 (by simp [signsOk])
    have e : stOf (.tuple [plD u, .str z]) = (u, z.cps.toList) := by
      show (intsZ (plD u), z.cps.toList) = _
      rw [intsZ_pl]
    rw [e]
    have i := b.2.1
    rw [intsZ_pl] at i
    have sg := b.2.2
    rw [signsOk_str, Bool.and_eq_true, Bool.and_eq_true] at sg
    have lz : z.length = z.cps.toList.length := by
      have : z.length = (S z.cps.toList).length := by rw [← str_S]
      rw [this, S_len]
    refine ⟨?_, nu, pu, (pw_all u).mp i, ?_, fun c mc => ?_⟩
    · show PyData.tuple [plD u, .str z] = .tuple [plD u, .str (S z.cps.toList)]
      rw [← str_S]
    · have := of_decide_eq_true sg.2.1
      show z.cps.toList.length ≤ 10
      omega
    · exact of_decide_eq_true (List.all_eq_true.mp sg.2.2 c mc)
theorem stB_of {h : List (List Nat)} {e : ST} (f : StF h e) : stB h (stP e) = true := by
  show stB h (.tuple [plD e.1, .str (S e.2)]) = true
  rw [stB_two, Bool.and_eq_true, Bool.and_eq_true, intsZ_pl]
  refine ⟨isPl_of f.ne f.pl, (pw_all e.1).mpr f.up, ?_⟩
  rw [signsOk_str, Bool.and_eq_true, Bool.and_eq_true, S_len, S_list]
  have := f.ln
  exact ⟨decide_eq_true (by omega), decide_eq_true (by omega), List.all_eq_true.mpr fun c mc => decide_eq_true (f.le c mc)⟩
theorem come_stF {h : List (List Nat)} (hv : Hv h) {e : ST} (c : Come h e) : StF h e := by
  have v := c.vs hv.small
  obtain ⟨p, mp, _⟩ := c.own
  obtain ⟨s, ms, k, ek⟩ := v.sf
  have hs := hv.each s ms
  refine ⟨fun z => (by rw [z] at mp; exact absurd mp List.not_mem_nil), v.us.ok, v.us.lt, ?_, fun c mc => ?_⟩
  · rw [ek, List.length_drop]; omega
  · rw [ek] at mc
    exact hs.2.2 c (List.mem_of_mem_drop mc)
def clL (h : List (List Nat)) (F : List ST) : Bool := ((List.range (F.length - 1)).all fun k => PySem.W.dataLt (stP (F.getD k ([], []))) (stP (F.getD (k + 1) ([], [])))) && (!(F.any fun e => isE h e.1 e.2) && (((begins h).all fun b => decide (b ∈ F)) && F.all fun e => (kidR h e).all fun x => decide (x ∈ F)))
def clB (h : List (List Nat)) (d : D) : Bool := match d with
  | .tuple ds => ds.all (stB h) && clL h (ds.map stOf)
  | _ => false
theorem clB_notup {h : List (List Nat)} {d : D} (l : isTy "tuple" d = false) : clB h d = false := by
  cases d with
  | tuple ds => exact absurd l (by simp [isTy, tyD])
  | _ => rfl
theorem putAll_mem : ∀ (F : List ST) (kvs : List (NestedKey × D)) (x : ST), (valD (putAll (fun e : ST => stKs e.1 e.2) (fun _ => PyData.bool true) kvs F) (stK x.1 x.2)).isSome = ((valD kvs (stK x.1 x.2)).isSome || decide (x ∈ F))
  | [], kvs, x => by simp [putAll]
  | e :: F, kvs, x => by
    show (valD (putAll _ _ (putD kvs (stK e.1 e.2) (.bool true)) F) (stK x.1 x.2)).isSome = _
    rw [putAll_mem F, valD_putD]
    by_cases z : x = e
    · subst z
      simp
    · rw [if_neg fun y => z (Prod.ext (stK_inj y).1 (stK_inj y).2)]
      simp [z]
section
variable {P : Program} {w : World} {K : PySem.W.Frag} {mg : Str → Option Value} {base : Heap}
def sp_standing : DSp := fun ss Q _ => ∃ h d, ss = [.va (hpD h), .va d] ∧ Hv h ∧ tame d = true ∧ Q false (.bool (stB h d)) ss
set_option maxHeartbeats 1000000 in
theorem ok_is_standing {f : Addr} {fd : FuncData} (B : Bare mg) (c1 : Cal P w K mg base "are_places" 2 ["heap", "thing"] sp_are_places) (c2 : Cal P w K mg base "are_signs" 1 ["thing", "least"] sp_are_signs) (F : Fun K "is_standing" "is_standing" s_is_standing f fd) (hm : mg "is_standing" = some (.ref f)) (hb : Binds K fd ["heap", "thing"] []) : Cal P w K mg base "is_standing" 3 ["heap", "thing"] sp_standing := by
  refine fn_ok F hm hb sc_is_standing (by rintro ss P W ⟨_, _, rfl, _⟩; rfl) ?_
  rintro cdv A outer s H E hr ss Q W ⟨h, d, rfl, hv, ht, q⟩
  have no : stB h d = false → ∀ ρ, FinP [.va (hpD h), .va d] Q false (.bool false) ρ := fun e ρ => FinP.va (ds := [hpD h, d]) (by rw [e] at q; exact q)
  refine sd_cons (s1_if (tm_of_um (um_or (tm_not (tm_val (em_isi (.inr (.inr (.inr (.inl rfl)))) B.isinstance_ B.tuple_ boot_tuple (em_var 1 rfl ⟨tame_nd ht, _, rfl, fun h1 => ?_, fun h1 => ⟨fun _ => sd_one (s1_ret (em_bool (no (stB_notup (by simpa using h1)) _))), fun z => Bool.noConfusion z⟩⟩)))))))
  obtain ⟨ds, rfl⟩ := tup_of (by simpa using h1)
  refine um_or (tm_cmp (nomark _) (em_callB B.len PySem.boot_len (am_cons (em_var 1 rfl (am_nil (kd_len_tuple (em_int (fd_ne_int ⟨_, rfl, fun h2 => ?_, fun h2 => ⟨fun _ => sd_one (s1_ret (em_bool (no (stB_len fun e => by rw [e] at h2; simp at h2) _))), fun z => Bool.noConfusion z⟩⟩))))))))
  have l2 : ds.length = 2 := by
    have : (ds.length : Int) = 2 := by simpa using h2
    omega
  obtain ⟨a, b, rfl⟩ : ∃ a b, ds = [a, b] := by
    match ds, l2 with
    | [a, b], _ => exact ⟨a, b, rfl⟩
  have ta : ∀ x ∈ [a, b], tame x = true := by
    have := ht
    rw [tame, Bool.and_eq_true] at this
    exact tameAll_mem this.2
  refine um_or1 (tm_not (tm_val (em_call c1 (hr.mono (by decide)) (am_cons (em_var 0 rfl (am_cons (em_ix (fun _ _ => rfl) (em_var 1 rfl (em_int (id_tuple (d := a) rfl (am_nil ⟨W0, fun _ z => z.elim, h, a, rfl, hv, ta a (by simp), _, rfl, fun h3 => ?_, fun h3 => sd_nil ?_⟩)))))))))))
  · exact sd_one (s1_ret (em_bool (no (by rw [stB_two, show isPl h.length a = false by simpa using h3]; rfl) _)))
  have h3' : isPl h.length a = true := by simpa using h3
  obtain ⟨u, rfl, nu, pu⟩ : ∃ X, a = plD X ∧ X ≠ [] ∧ PlacesOk h X := by
    cases a with
    | tuple ds => obtain ⟨z, rfl, zn, zp⟩ := isPl_ints h3'; exact ⟨z, rfl, zn, zp⟩
    | _ => exact absurd h3' (by simp [isPl])
  have lu : u.length ≤ 1000000 := by
    have := (tame_all (ta (plD u) (by simp))).1
    rwa [List.length_map] at this
  rw [stB_two, h3', Bool.true_and, intsZ_pl] at q
  refine sd_cons (s1_set 2 sc_is_standing.nd (vm_data (em_ix (fun _ _ => rfl) (em_var 1 rfl (em_int (id_tuple (d := plD u) rfl ?_))))))
  refine sd_one (s1_ret (em_and (em_callB B.all_ boot_all (am_cons ?_))))
  refine em_fm (.nm 3) [("k", 3)] rfl sc_is_standing.nd (blkOk_by (N := N_is_standing) (sc := defScope s_is_standing) (by decide +kernel)) (fun _ _ _ _ _ => pg_nm sc_is_standing.nd) (by decide) (.map (fun k : Nat => .int (0 + (k : Int))) (fun k => .bool (decide (u.getD k 0 < u.getD (k + 1) 0))) (im_range1 B.range_ (em_bin (em_callB B.len PySem.boot_len (am_cons (em_var 2 rfl (am_nil (kd_len_tuple (em_int (fd_sub_int ⟨_, rfl, by rw [List.length_map]; omega, by rw [List.length_map]; omega, List.range (u.length - 1), ?_, small_line (by rw [List.length_range]; omega), fun k hk => ⟨_, rfl, fun _ _ _ _ _ => ?_⟩, ?_⟩))))))))))
  · unfold rngD
    rw [List.length_map, show ((u.length : Int) - 1).toNat = u.length - 1 by omega]
  · have hk' := List.mem_range.mp hk
    have at_ : ∀ (j : Nat) (i : Int), i = (j : Int) → j < u.length → atI (u.map PyData.int) i = some (.int (u.getD j 0)) := fun j i e hj => by
      subst e
      refine atI_nat ?_
      rw [List.getElem?_map, List.getElem?_eq_getElem hj, List.getD_eq_getElem?_getD, List.getElem?_eq_getElem hj]
      rfl
    exact em_cmp (nomark _) (em_ix (fun _ _ => rfl) (em_var 2 rfl (em_var 3 rfl (id_tuple (at_ k _ (by omega) (by omega)) (em_ix (fun _ _ => rfl) (em_var 2 rfl (em_bin (em_var 3 rfl (em_int (fd_add_int (id_tuple (at_ (k + 1) _ (by omega) (by omega)) (fd_lt ⟨rfl, rfl⟩))))))))))))
  · have e : (List.range (u.length - 1)).map (fun k => PyData.bool (decide (u.getD k 0 < u.getD (k + 1) 0))) = ((List.range (u.length - 1)).map fun k => decide (u.getD k 0 < u.getD (k + 1) 0)).map PyData.bool := by rw [List.map_map]; rfl
    rw [e]
    have e2 : ((List.range (u.length - 1)).map fun k => decide (u.getD k 0 < u.getD (k + 1) 0)).all id = incZ u := by rw [List.all_map]; rfl
    refine am_nil (kd_all rfl ⟨_, rfl, fun k1 => ?_, fun k1 => ?_⟩)
    · rw [e2] at k1
      rw [k1, Bool.true_and] at q
      exact em_one (em_call c2 (hr.mono (by decide)) (am_cons (em_ix (fun _ _ => rfl) (em_var 1 rfl (em_int (id_tuple (d := b) rfl (am_cons (em_int (am_nil ⟨W0, fun _ z => z.elim, b, 0, rfl, ta b (by simp), FinP.va (ds := [hpD h, .tuple [plD u, b]]) q⟩)))))))))
    · rw [e2] at k1
      rw [k1, Bool.false_and] at q
      exact FinP.va (ds := [hpD h, .tuple [plD u, b]]) q
end

/-! ### is a thing a standing, by the law's own words -/
theorem letters_cps : (Str.ofString "abcdefghijklmnopqrstuvwxyz").cps.toList = lettersL := by decide +kernel
theorem isTy_str {d : D} (h : isTy "str" d = true) : ∃ z, d = .str z := by
  cases d with
  | str z => exact ⟨z, rfl⟩
  | bool b => exact absurd h (by simp [isTy])
  | _ => exact absurd h (by simp [isTy, tyD])
theorem signs_nostr {d : D} {n : Int} (h : isTy "str" d = false) : signsOk d n = false := by
  cases d with
  | str z => exact absurd h (by simp [isTy, tyD])
  | _ => rfl
theorem canLayAll_sub {l m : List D} (s : l.Sublist m) (h : PyData.canLayAll0 m = true) : PyData.canLayAll0 l = true := by
  induction s with
  | slnil => exact h
  | cons a s ih => rw [PyData.canLayAll0, Bool.and_eq_true] at h; exact ih h.2
  | cons_cons a s ih =>
    rw [PyData.canLayAll0, Bool.and_eq_true] at h ⊢
    exact ⟨h.1, ih h.2⟩
theorem depthAll_sub {l m : List D} (s : l.Sublist m) : PyData.depthAll l ≤ PyData.depthAll m := by
  induction s with
  | slnil => exact Nat.le_refl _
  | cons a s ih => rw [PyData.depthAll]; omega
  | cons_cons a s ih => rw [PyData.depthAll, PyData.depthAll]; omega
theorem shaped_filter {ds : List D} (p : D → Bool) (h : SeqAt.shaped (.tuple ds) = true) : SeqAt.shaped (.list (ds.filter p)) = true := by
  unfold SeqAt.shaped at *
  rw [Bool.and_eq_true, decide_eq_true_eq] at *
  rw [PyData.canLay0, PyData.depth] at h
  rw [PyData.canLay0, PyData.depth]
  have s := List.filter_sublist (p := p) (l := ds)
  exact ⟨canLayAll_sub s h.1, by have := depthAll_sub s; omega⟩
theorem shaped_mem {ds : List D} (h : SeqAt.shaped (.tuple ds) = true) : ∀ x ∈ ds, SeqAt.shaped x = true := by
  unfold SeqAt.shaped at *
  rw [Bool.and_eq_true, decide_eq_true_eq, PyData.canLay0, PyData.depth] at h
  intro x m
  rw [Bool.and_eq_true, decide_eq_true_eq]
  obtain ⟨h1, h2⟩ := h
  induction ds with
  | nil => exact absurd m List.not_mem_nil
  | cons d ds ih =>
    rw [PyData.canLayAll0, Bool.and_eq_true] at h1
    rw [PyData.depthAll] at h2
    rcases List.mem_cons.mp m with rfl | m
    · exact ⟨h1.1, by omega⟩
    · exact ih m h1.2 (by omega)
theorem ded_ints : ∀ u : List Int, ∃ l : List Int, l.Nodup ∧ ∀ k, k ∈ l ↔ k ∈ u
  | [] => ⟨[], List.nodup_nil, fun _ => Iff.rfl⟩
  | x :: u => by
    obtain ⟨l, n, m⟩ := ded_ints u
    by_cases h : x ∈ l
    · refine ⟨l, n, fun k => ?_⟩
      rw [m k, List.mem_cons]
      exact ⟨.inr, fun z => z.elim (fun e => by rw [e]; exact (m x).mp h) id⟩
    · refine ⟨x :: l, List.nodup_cons.mpr ⟨h, n⟩, fun k => ?_⟩
      rw [List.mem_cons, List.mem_cons, m k]
/-- a list is what its set comes to, sorted, just if it rises -/
theorem sort_up {u l : List Int} (n : l.Nodup) (m : ∀ k, k ∈ l ↔ k ∈ u) : u = l.mergeSort (fun a b => decide (a ≤ b)) ↔ u.Pairwise (· < ·) := by
  have so : (l.mergeSort fun a b => decide (a ≤ b)).Pairwise fun a b => decide (a ≤ b) = true := List.pairwise_mergeSort (fun a b c h1 h2 => by
    simp only [decide_eq_true_eq] at *
    omega) (fun a b => by
    simp only [Bool.or_eq_true, decide_eq_true_eq]
    omega) _
  have ns : (l.mergeSort fun a b => decide (a ≤ b)).Nodup := (List.mergeSort_perm _ _).nodup_iff.mpr n
  have lt : (l.mergeSort fun a b => decide (a ≤ b)).Pairwise (· < ·) := by
    refine (so.and ns).imp fun {a b} h => ?_
    have h1 := of_decide_eq_true h.1
    have h2 := h.2
    omega
  constructor
  · intro e
    rw [e]
    exact lt
  · intro p
    have nu : u.Nodup := p.imp fun h => Int.ne_of_lt h
    have pm : u.Perm (l.mergeSort fun a b => decide (a ≤ b)) := (List.perm_ext_iff_of_nodup nu ns).mpr fun k => by rw [List.mem_mergeSort, m]
    exact List.Perm.eq_of_pairwise (le := fun a b : Int => a < b) (fun a b _ _ h1 h2 => absurd (Int.lt_trans h1 h2) (Int.lt_irrefl a)) p lt pm
theorem few_ints {n : Nat} {u : List Int} (hn : n ≤ 8) (p : ∀ x ∈ u, 0 ≤ x ∧ x < n) : ∀ l : List Int, l.Nodup → (∀ k ∈ l, k ∈ u) → l.length + 1 < 4096 := fun l nl ml => by
  have := nodup_le l (rngI n) nl fun k mk => mem_rngI.mpr (p k (ml k mk))
  rw [rngI_len] at this
  omega
section
variable {P : Program} {w : World} {K : PySem.W.Frag} {mg : Str → Option Value} {base : Heap} {ea : Nat → Addr} {et : Addr}
def sp_lstanding : DSp := fun ss Q _ => ∃ h d, ss = [.va (hpD h), .va d] ∧ Hv h ∧ Th d ∧ Q false (.bool (stB h d)) ss
set_option maxHeartbeats 2000000 in
theorem ok_law_is_standing {f : Addr} {fd : FuncData} (B : Bare mg) (c1 : Cal P w K mg base "_law_is_int" 1 ["thing", "low", "high"] sp_is_int) (F : Fun K "_law_is_standing" "_law_is_standing" s_law_is_standing f fd) (hm : mg "_law_is_standing" = some (.ref f)) (hb : Binds K fd ["heap", "thing"] []) : Cal P w K mg base "_law_is_standing" 2 ["heap", "thing"] sp_lstanding := by
  refine fn_ok F hm hb sc_law_is_standing (by rintro ss P W ⟨_, _, rfl, _⟩; rfl) ?_
  rintro cdv A outer s H E hr ss Q W ⟨h, d, rfl, hv, th, q⟩
  have hlen := hv.small.len
  have no : stB h d = false → ∀ ρ, FinP [.va (hpD h), .va d] Q false (.bool false) ρ := fun e ρ => FinP.va (ds := [hpD h, d]) (by rw [e] at q; exact q)
  refine sd_cons (s1_if (tm_of_um (um_or (tm_not (tm_val (em_isi (.inr (.inr (.inr (.inl rfl)))) B.isinstance_ B.tuple_ boot_tuple (em_var 1 rfl ⟨tame_nd th.tm, _, rfl, fun h1 => ?_, fun h1 => ⟨fun _ => sd_one (s1_ret (em_bool (no (stB_notup (by simpa using h1)) _))), fun z => Bool.noConfusion z⟩⟩)))))))
  obtain ⟨ds, rfl⟩ := tup_of (by simpa using h1)
  refine um_or (tm_cmp (nomark _) (em_callB B.len PySem.boot_len (am_cons (em_var 1 rfl (am_nil (kd_len_tuple (em_int (fd_ne_int ⟨_, rfl, fun h2 => ?_, fun h2 => ⟨fun _ => sd_one (s1_ret (em_bool (no (stB_len fun e => by rw [e] at h2; simp at h2) _))), fun z => Bool.noConfusion z⟩⟩))))))))
  have l2 : ds.length = 2 := by
    have : (ds.length : Int) = 2 := by simpa using h2
    omega
  obtain ⟨a, b, rfl⟩ : ∃ a b, ds = [a, b] := by
    match ds, l2 with
    | [a, b], _ => exact ⟨a, b, rfl⟩
  have ta : ∀ x ∈ [a, b], tame x = true := by
    have := th.tm
    rw [tame, Bool.and_eq_true] at this
    exact tameAll_mem this.2
  have sa := shaped_mem th.sh
  have tA := ta a (by simp)
  have tB := ta b (by simp)
  have nopl : isPl h.length a = false → stB h (.tuple [a, b]) = false := fun e => by rw [stB_two, e]; rfl
  refine um_or (tm_not (tm_val (em_isi (.inr (.inr (.inr (.inl rfl)))) B.isinstance_ B.tuple_ boot_tuple (em_ix (fun _ _ => rfl) (em_var 1 rfl (em_int (id_tuple (d := a) rfl ⟨tame_nd tA, _, rfl, fun h3 => ?_, fun h3 => ⟨fun _ => sd_one (s1_ret (em_bool (no (nopl ?_) _))), fun z => Bool.noConfusion z⟩⟩)))))))
  rotate_left
  · have h3 : isTy "tuple" a = false := by simpa using h3
    cases a with
    | tuple ds => exact absurd h3 (by simp [isTy, tyD])
    | _ => rfl
  obtain ⟨es, rfl⟩ := tup_of (by simpa using h3)
  have el : es.length ≤ 1000000 := (tame_all tA).1
  have et : ∀ y ∈ es, nd y = true := fun y m => tame_nd ((tame_all tA).2 y m)
  have se := sa _ (List.mem_cons_self)
  refine um_or1 (tm_cmp (nomark _) (em_ix (fun _ _ => rfl) (em_var 1 rfl (em_int (id_tuple (d := .tuple es) rfl (em_tup (am_nil ⟨small_line (by simp), rfl, fd_eq hr.units se (by decide) ⟨_, rfl, fun z => ?_, fun z => sd_nil ?_⟩⟩)))))))
  · have e0 : es = [] := by
      cases es with
      | nil => rfl
      | cons y es => simp [PyData.eqv, PyData.eqvAll] at z
    exact sd_one (s1_ret (em_bool (no (nopl (by rw [e0]; rfl)) _)))
  have en : es ≠ [] := fun e => by
    rw [e] at z
    simp [PyData.eqv, PyData.eqvAll] at z
  have e2 : isPl h.length (.tuple es) = decide ((es.filter fun x => !isInt x 0 ((h.length : Int) - 1)) = []) := by
    rw [isPl_tup, decide_eq_false en, Bool.not_false, Bool.true_and, Bool.eq_iff_iff, decide_eq_true_eq, List.filter_eq_nil_iff, List.all_eq_true]
    exact ⟨fun h c m => by simpa using h c m, fun h c m => by simpa using h c m⟩
  refine sd_cons (s1_if (tm_cmp (nomark _) (em_fm (.nm 2) [("place", 2)] rfl sc_law_is_standing.nd (blkOk_by (N := N_law_is_standing) (sc := defScope s_law_is_standing) (by decide +kernel)) (fun _ _ _ _ _ => pg_nm sc_law_is_standing.nd) (by decide) (.filter (fun x => x) (fun x => !isInt x 0 ((h.length : Int) - 1)) (fun x => x) (im_tuple (em_ix (fun _ _ => rfl) (em_var 1 rfl (em_int (id_tuple (d := .tuple es) rfl ⟨es, rfl, es, by simp, small_line el, fun x hx => ⟨_, rfl, fun _ _ _ _ _ => ⟨?_, fun _ => em_var 2 rfl ⟨et x hx, rfl⟩⟩⟩, ?_⟩)))))))))
  · refine tm_not (tm_val (em_call c1 (hr.mono (by decide)) (am_cons (em_var 2 rfl (am_cons (em_int (am_cons (em_bin (em_callB B.len PySem.boot_len (am_cons (em_var 0 rfl (am_nil (kd_len_tuple (em_int (fd_sub_int (am_nil ⟨W0, fun _ z => z.elim, x, 0, ((h.map tx).length : Int) - 1, rfl, et x hx, _, rfl, ?_⟩))))))))))))))))
    rw [List.length_map]
  rw [List.map_id']
  refine em_lst (am_nil ⟨small_line (by simp), rfl, fd_ne hr.units (shaped_filter _ se) (by decide) ⟨_, rfl, fun k5 => ?_, fun k5 => sd_nil ?_⟩⟩)
  · rw [eqv_lnil] at k5
    exact sd_one (s1_ret (em_bool (no (nopl (by rw [e2]; simpa using k5)) _)))
  rw [eqv_lnil] at k5
  have kpl : isPl h.length (.tuple es) = true := by rw [e2]; simpa using k5
  obtain ⟨u, rfl, nu, pu⟩ := isPl_ints kpl
  have kplD : isPl h.length (plD u) = true := kpl
  have est : stB h (.tuple [plD u, b]) = (incZ u && signsOk b 0) := by rw [stB_two, kplD, Bool.true_and, intsZ_pl]
  have iu : incZ u = true ↔ u.Pairwise (· < ·) := pw_all u
  obtain ⟨l, nl, ml⟩ := ded_ints u
  have su := sort_up nl ml
  refine sd_cons (s1_if (tm_of_um (um_or (tm_cmp (nomark _) (em_callTy B.list_ PyProof.Rows.boot_list (am_cons (em_ix (fun _ _ => rfl) (em_var 1 rfl (em_int (id_tuple (d := plD u) rfl (am_nil (kd_list_tuple (em_sortedSetI rfl hr.units B.sorted_ B.set_ (em_ix (fun _ _ => rfl) (em_var 1 rfl (em_int (id_tuple (d := plD u) rfl ⟨u, l, rfl, few_ints hlen pu, nl, ml, ?_⟩)))))))))))))))))
  rw [dle_int]
  refine fd_ne hr.units (shaped_intsL _) (shaped_intsL _) ⟨_, rfl, fun k6 => ?_, fun k6 => ⟨fun _ => ?_, fun z => Bool.noConfusion z⟩⟩
  rotate_left
  · rw [eqv_intsL] at k6
    refine sd_one (s1_ret (em_bool (no ?_ _)))
    have : incZ u = false := by
      cases q : incZ u with
      | false => rfl
      | true => rw [decide_eq_true (su.mpr (iu.mp q))] at k6; cases k6
    show stB h (.tuple [plD u, b]) = false
    rw [est, this, Bool.false_and]
  rw [eqv_intsL] at k6
  have k6' : incZ u = true := iu.mpr (su.mp (by simpa using k6))
  rw [k6', Bool.true_and] at est
  refine um_or (tm_not (tm_val (em_isi (.inr (.inr (.inl rfl))) B.isinstance_ B.str_ boot_str (em_ix (fun _ _ => rfl) (em_var 1 rfl (em_int (id_tuple (d := b) rfl ⟨tame_nd tB, _, rfl, fun h7 => ?_, fun h7 => ⟨fun _ => sd_one (s1_ret (em_bool (no (est.trans (signs_nostr (by simpa using h7))) _))), fun z => Bool.noConfusion z⟩⟩)))))))
  obtain ⟨z, rfl⟩ := isTy_str (by simpa using h7)
  have zl : z.length ≤ 1000000 := of_decide_eq_true (by simpa [tame, tameStr] using tB)
  have esg : signsOk (.str z) 0 = (decide ((z.length : Int) ≤ 10) && z.cps.toList.all fun c => decide (c ∈ lettersL)) := by
    rw [signsOk_str, decide_eq_true (by omega : (0 : Int) ≤ z.length), Bool.true_and]
  rw [esg] at est
  refine um_or1 (tm_cmp (nomark _) (em_callB B.len PySem.boot_len (am_cons (em_ix (fun _ _ => rfl) (em_var 1 rfl (em_int (id_tuple (d := .str z) rfl (am_nil (kd_len_str (small_line zl) (em_int (fd_gt ⟨_, rfl, fun k8 => ?_, fun k8 => sd_nil ?_⟩)))))))))))
  · have := of_decide_eq_true k8
    exact sd_one (s1_ret (em_bool (no (by rw [show stB h (.tuple [.tuple (u.map .int), .str z]) = _ from est, decide_eq_false (by omega)]; rfl) _)))
  have k8' := of_decide_eq_false k8
  rw [decide_eq_true (by omega : (z.length : Int) ≤ 10), Bool.true_and] at est
  rw [show stB h (.tuple [.tuple (u.map .int), .str z]) = _ from est] at q
  refine sd_one (s1_ret (em_cmp (nomark _) (em_fm (.nm 3) [("sign", 3)] rfl sc_law_is_standing.nd (blkOk_by (N := N_law_is_standing) (sc := defScope s_law_is_standing) (by decide +kernel)) (fun _ _ _ _ _ => pg_nm sc_law_is_standing.nd) (by decide) (.filter (fun c : Nat => .str ⟨#[c]⟩) (fun c => !decide (c ∈ lettersL)) (fun c => tx [c]) (im_str (em_ix (fun _ _ => rfl) (em_var 1 rfl (em_int (id_tuple (d := .str z) rfl ⟨z, rfl, z.cps.toList, by simp [chars], small_line (by have : z.cps.toList.length = z.length := rfl; omega), fun c mc => ⟨_, rfl, fun _ _ _ _ _ => ⟨tm_cmp rfl (em_var 3 (d := tx [c]) rfl (em_str (fd_notIn_sign ⟨_, rfl, by rw [letters_cps]⟩))), fun _ => em_var 3 (d := tx [c]) rfl ⟨rfl, rfl⟩⟩⟩, em_lst (am_nil ⟨small_line (by simp), rfl, fd_eq hr.units ?_ (by decide) (FinP.va (ds := [hpD h, .tuple [.tuple (u.map .int), .str z]]) ?_)⟩)⟩)))))))))
  · have okz : PyData.strOk z = true := by
      have := sa (.str z) (by simp)
      unfold SeqAt.shaped at this
      rw [Bool.and_eq_true, PyData.canLay0] at this
      exact this.1
    have := shaped_txs (l := (z.cps.toList.filter fun c => !decide (c ∈ lettersL)).map fun c => [c]) fun s m c mc => by
      obtain ⟨c2, m2, rfl⟩ := List.mem_map.mp m
      rw [List.mem_singleton.mp mc]
      have := (List.mem_filter.mp m2).1
      unfold PyData.strOk at okz
      rw [← Array.all_toList, List.all_eq_true] at okz
      exact of_decide_eq_true (okz c2 this)
    rw [List.map_map] at this
    exact this
  · have e9 : PyData.eqv (.list ((z.cps.toList.filter fun c => !decide (c ∈ lettersL)).map fun c => tx [c])) (.list []) = z.cps.toList.all fun c => decide (c ∈ lettersL) := by
      rw [eqv_lnil, Bool.eq_iff_iff, decide_eq_true_eq, List.map_eq_nil_iff, List.filter_eq_nil_iff, List.all_eq_true]
      exact ⟨fun h c m => by simpa using h c m, fun h c m => by simpa using h c m⟩
    rw [e9]
    exact q
end

/-! ### beginnings, leads, the law's asking -/
section
variable {P : Program} {w : World} {K : PySem.W.Frag} {mg : Str → Option Value} {base : Heap} {ea : Nat → Addr} {et : Addr}
def sp_begin : DSp := fun ss Q _ => ∃ h, ss = [.va (hpD h)] ∧ Hv h ∧ Q true (.list ((begins h).map stP)) ss
theorem ok_beginnings {f : Addr} {fd : FuncData} (c0 : Cal P w K mg base "need_heap" 4 ["heap"] sp_need_heap) (c1 : Cal P w K mg base "all_beginnings" 1 ["heap"] sp_all_beginnings) (F : Fun K "beginnings" "beginnings" s_beginnings f fd) (hm : mg "beginnings" = some (.ref f)) (hb : Binds K fd ["heap"] []) : Cal P w K mg base "beginnings" 5 ["heap"] sp_begin := by
  refine fn_ok F hm hb sc_beginnings (by rintro ss P W ⟨_, rfl, _⟩; rfl) ?_
  rintro cdv A outer s H E hr ss Q W ⟨h, rfl, hv, q⟩
  refine sd_cons (s1_expr (em_call c0 (hr.mono (by decide)) (am_cons (em_var 0 rfl (am_nil ⟨W0, fun _ z => z.elim, h, rfl, hv, ?_⟩)))))
  exact sd_one (s1_ret (em_call c1 (hr.mono (by decide)) (am_cons (em_var 0 rfl (am_nil ⟨W0, fun _ z => z.elim, h, rfl, hv.small, FinP.va (ds := [hpD h]) q⟩)))))
def sp_leads (ea : Nat → Addr) : DSp := fun ss Q W => ∃ h d, ss = [.va (hpD h), .va d] ∧ Hv h ∧ tame d = true ∧ (stB h d = true → ∀ l : List ST, l.Nodup → (∀ x, x ∈ l ↔ x ∈ kidR h (stOf d)) → Q true (.list ((srtS l).map stP)) ss) ∧ (stB h d = false → W (.ref (ea 1)))
theorem ok_leads {f : Addr} {fd : FuncData} (B : Bare mg) (R : ExcR K mg "NoStanding" (ea 1)) (c0 : Cal P w K mg base "need_heap" 4 ["heap"] sp_need_heap) (c1 : Cal P w K mg base "is_standing" 3 ["heap", "thing"] sp_standing) (c2 : Cal P w K mg base "next_to" 2 ["heap", "standing"] sp_next_to) (F : Fun K "leads" "leads" s_leads f fd) (hm : mg "leads" = some (.ref f)) (hb : Binds K fd ["heap", "standing"] []) : Cal P w K mg base "leads" 5 ["heap", "standing"] (sp_leads ea) := by
  refine fn_ok F hm hb sc_leads (by rintro ss P W ⟨_, _, rfl, _⟩; rfl) ?_
  rintro cdv A outer s H E hr ss Q W ⟨h, d, rfl, hv, th, q1, q0⟩
  refine sd_cons (s1_expr (em_call c0 (hr.mono (by decide)) (am_cons (em_var 0 rfl (am_nil ⟨W0, fun _ z => z.elim, h, rfl, hv, ?_⟩)))))
  refine sd_cons (s1_if (tm_not (tm_val (em_call c1 (hr.mono (by decide)) (am_cons (em_var 0 rfl (am_cons (em_var 1 rfl (am_nil ⟨W0, fun _ z => z.elim, h, d, rfl, hv, th, _, rfl, fun k1 => ?_, fun k1 => sd_nil ?_⟩)))))))))
  · exact sd_one (s1_raise R rfl (q0 (by simpa using k1)))
  have k2 : stB h d = true := by simpa using k1
  obtain ⟨ed, sf⟩ := stB_is k2
  have q1 := q1 k2
  generalize stOf d = e at ed sf q1
  subst ed
  have hs := hv.small
  have l1 : e.1.length ≤ 8 := by
    have h1 := nodup_le e.1 (rngI h.length) (sf.up.imp fun h => Int.ne_of_lt h) fun x m => mem_rngI.mpr (sf.pl x m)
    rw [rngI_len] at h1
    have := hs.len
    omega
  have l2 := sf.ln
  refine sd_one (s1_ret (em_sortedSetN (enc := stP) (dec := fun b => stKs b.1 b.2) stP_key stP_deep (fun _ _ => stKs_inj) alike_st (fun _ _ => eqv_st) rfl hr.units B.sorted_ B.set_ (em_fm (.tp [.nm 2, .nm 3]) [("place", 2), ("there", 3)] rfl sc_leads.nd (blkOk_by (N := N_leads) (sc := defScope s_leads) (by decide +kernel)) (fun _ _ _ _ _ => pg_tp rfl (pgs_1 (pg_nm sc_leads.nd) (pgs_1 (pg_nm sc_leads.nd) pgs_0))) (by decide) (.map nxD (fun x => stP x.2) (im_list (em_call c2 (hr.mono (by decide)) (am_cons (em_var 0 rfl (am_cons (em_var 1 rfl (am_nil ⟨W0, fun _ z => z.elim, h, e.1, e.2, rfl, hs, by omega, by omega, _, rfl, nexts h e.1 e.2, rfl, small_line (by have := nexts_len (h := h) (u := e.1) (r := e.2); have := hs.len; omega), fun x hx => ⟨_, rfl, fun _ _ _ _ _ => em_var 3 rfl ⟨rfl, rfl⟩⟩, kidR h e, ?_, fun l n m => ?_, fun l n m => FinP.va (ds := [hpD h, stP e]) (q1 l n m)⟩)))))))))))
  · unfold kidR
    rw [List.map_map]
    rfl
  · have := nodup_le l (kidR h e) n m
    have := kid_le8 hs e
    exact ⟨by omega, sorts_st (small_line (by omega))⟩
def sp_asked3 (ea : Nat → Addr) : DSp := fun ss Q _ => ∃ h d, ss = [.va (hpD h), .va d] ∧ Hv h ∧ tame d = true ∧ (stB h d = true → ∀ l : List ST, l.Nodup → (∀ x, x ∈ l ↔ x ∈ kidR h (stOf d)) → Q true (.list ((srtS l).map stP)) ss) ∧ (stB h d = false → Q false (wdD 1) ss)
theorem ok_law_asked3 {f : Addr} {fd : FuncData} (Er : Errs K mg ea et) (ex : ∀ c, c < 5 → PySem.W.exmOne K (.ref (ea c)) (.ref et) = some true) (c0 : Cal P w K mg base "leads" 5 ["heap", "standing"] (sp_leads ea)) (c1 : CalE P w K mg base "_law_refusal" 2 (sp_refusal ea)) (F : Fun K "_law_asked" "_law_asked" s_law_asked f fd) (hm : mg "_law_asked" = some (.ref f)) (hb : Binds K fd ["heap", "thing"] []) : Cal P w K mg base "_law_asked" 6 ["heap", "thing"] (sp_asked3 ea) := by
  refine fn_ok F hm hb sc_law_asked (by rintro ss P W ⟨_, _, rfl, _⟩; rfl) ?_
  rintro cdv A outer s H E hr ss Q W ⟨h, d, rfl, hv, th, q1, q0⟩
  refine sd_one (s1_tryE 2 (c := .ref et) (Wb := fun v => v = .ref (ea 1) ∧ stB h d = false) rfl rfl sc_law_asked.nd rfl rfl ⟨rfl, by decide, .inl Er.mt⟩ (fun a ⟨j, h⟩ => ?_) (fun pn xe => ?_) (fun v e => e.1 ▸ ex 1 (by decide)) fun a oe cls pn e hz hvv => ?_)
  · match j, h with
    | 0, h => cases h
    | 1, h => cases h
    | 2, h => cases h
    | j + 3, h => cases h
  · exact sd_one (s1_ret (em_call c0 (hr.mono (by decide)) (am_cons (em_var 0 rfl (am_cons (em_var 1 rfl (am_nil ⟨fun v => v = .ref (ea 1) ∧ stB h d = false, fun v e => e, h, d, rfl, hv, th, fun k l n m => FinP.va (ds := [hpD h, d]) (q1 k l n m), fun k => ⟨rfl, k⟩⟩)))))))
  · obtain ⟨e, k0⟩ := e
    subst e
    obtain ⟨vs, hvs⟩ := id hvv
    exact sd_one (s1_ret (em_callE (p := (a, oe)) 2 c1 ⟨(L2H.roomH_of (hr.mono (show 2 ≤ 5 by decide))).dp, (L2H.roomH_of (hr.mono (show 2 ≤ 5 by decide))).un⟩ ⟨rfl, vs, hvs, hz.2.2 vs hvs⟩ List.mem_cons_self rfl ⟨1, by decide, hz.zc, hvv, FinP.va (ds := [hpD h, d]) (q0 k0)⟩))
end

/-! ### the law k03 -/
theorem th_tx {n : Nat} {s : List Nat} (h1 : s.length ≤ 1000000) (h2 : ∀ c ∈ s, c < 0x110000) : thB n (tx s) = true := th_str (by rw [S_len]; exact h1) (strOk_S h2)
theorem strOk_rep {n : Nat} {x : Str} (h : PyData.strOk x = true) : PyData.strOk (repStr n x) = true := by
  have e : ∀ (n : Nat) (acc : Array Nat), acc.all (fun c => decide (c < 0x110000)) = true → (((List.replicate n x.cps).foldl (· ++ ·) acc).all fun c => decide (c < 0x110000)) = true := by
    intro n
    induction n with
    | zero => intro acc h; exact h
    | succ n ih =>
      intro acc hacc
      rw [List.replicate_succ, List.foldl_cons]
      refine ih _ ?_
      rw [Array.all_append, hacc]
      exact h
  exact e n #[] (by simp)
theorem rep_th {n m : Nat} {x : Str} (hx : x.length ≤ 10) (hn : n ≤ 1000) (h : PyData.strOk x = true) : thB m (.str (repStr n x)) = true := by
  refine th_str ?_ (strOk_rep h)
  rw [repS_len]
  have : n * x.length ≤ 1000 * 10 := Nat.mul_le_mul hn hx
  omega
theorem th_tup2 {n : Nat} {ds : List D} (hl : ds.length ≤ 1000) (h : ∀ d ∈ ds, thB n d = true) : thB (n + 1) (.tuple ds) = true := (thB_list (by omega) h).2
theorem th_two {n : Nat} {a b : D} (ha : thB n a = true) (hb : thB n b = true) : thB (n + 1) (.tuple [a, b]) = true := th_tup2 (by simp) fun d m => by
  simp at m
  rcases m with rfl | rfl
  · exact ha
  · exact hb
theorem alike_sts : ∀ l m : List ST, PySem.W.alikeAll (l.map stP) (m.map stP) = true
  | [], m => by cases m <;> simp [PySem.W.alikeAll]
  | a :: l, [] => by simp [PySem.W.alikeAll]
  | a :: l, b :: m => by rw [List.map_cons, List.map_cons, PySem.W.alikeAll, alike_st, alike_sts l m]; rfl
theorem lay_app (a b : List D) : PyData.canLayAll0 (a ++ b) = (PyData.canLayAll0 a && PyData.canLayAll0 b) := by
  induction a with
  | nil => simp [PyData.canLayAll0]
  | cons x a ih => rw [List.cons_append, PyData.canLayAll0, ih, PyData.canLayAll0, Bool.and_assoc]
theorem depth_app (a b : List D) : PyData.depthAll (a ++ b) = max (PyData.depthAll a) (PyData.depthAll b) := by
  induction a with
  | nil => simp [PyData.depthAll]
  | cons x a ih => rw [List.cons_append, PyData.depthAll, ih, PyData.depthAll, Nat.max_assoc]
theorem shaped_snoc {l : List D} (h : SeqAt.shaped (.list l) = true) : SeqAt.shaped (.list (l ++ [.none])) = true := by
  unfold SeqAt.shaped at *
  rw [Bool.and_eq_true, decide_eq_true_eq, PyData.canLay0, PyData.depth] at *
  rw [lay_app, depth_app, h.1]
  refine ⟨by simp [PyData.canLayAll0, PyData.canLay0], ?_⟩
  have := h.2
  simp [PyData.depthAll, PyData.depth]
  omega
theorem eqv_snoc (x : D) : ∀ l : List D, PyData.eqvAll l (l ++ [x]) = false
  | [] => by simp [PyData.eqvAll]
  | d :: l => by rw [List.cons_append, PyData.eqvAll, eqv_snoc x l, Bool.and_false]
theorem hv_take {h : List (List Nat)} (v : Hv h) {k : Nat} (k2 : 2 ≤ k) : Hv (h.take k) := by
  have := v.lo
  have := v.hi
  refine ⟨by rw [List.length_take]; omega, by rw [List.length_take]; omega, fun s m => v.each s (List.mem_of_mem_take m), v.so.sublist (List.take_sublist k h)⟩
theorem th_st {n : Nat} {e : ST} (hn : 1 ≤ n) (l1 : e.1.length ≤ 1000) (l2 : e.2.length ≤ 1000) (c : ∀ x ∈ e.2, x < 0x110000) : thB (n + 1) (stP e) = true := by
  obtain ⟨m, rfl⟩ : ∃ m, n = m + 1 := ⟨n - 1, by omega⟩
  refine th_two (a := plD e.1) (b := tx e.2) ?_ (th_tx (by omega) c)
  refine th_tup2 (by rw [List.length_map]; exact l1) fun d md => ?_
  obtain ⟨x, _, rfl⟩ := List.mem_map.mp md
  exact th_int x
theorem at_last {h : List (List Nat)} (hl : 2 ≤ h.length) : ∃ s, s ∈ h ∧ atI (h.map tx) (-1) = some (tx s) := by
  obtain ⟨s, e⟩ : ∃ s, h[h.length - 1]? = some s := ⟨_, List.getElem?_eq_getElem (by omega)⟩
  refine ⟨s, List.mem_of_getElem? e, ?_⟩
  unfold atI ixN
  rw [List.length_map, if_neg (by decide), if_pos (by omega), Option.bind_some, List.getElem?_map]
  have : (-1 + (h.length : Int)).toNat = h.length - 1 := by omega
  rw [this, e]
  rfl
theorem in_st {e : ST} (l1 : e.1.length ≤ 1000) (l2 : e.2.length ≤ 1000) (c : ∀ x ∈ e.2, x < 0x110000) : ∀ x ∈ [plD e.1, tx e.2], inB 1 4 x := by
  intro x m
  simp only [List.mem_cons, List.not_mem_nil, or_false] at m
  rcases m with rfl | rfl
  · refine ⟨th_tup2 (by rw [List.length_map]; exact l1) fun d md => ?_, fun s e => (by cases e), fun ys e2 => ?_⟩
    · obtain ⟨x, _, rfl⟩ := List.mem_map.mp md
      exact th_int x
    · cases e2
      refine ⟨by rw [List.length_map]; exact l1, fun y my => ?_⟩
      obtain ⟨x, _, rfl⟩ := List.mem_map.mp my
      exact ⟨th_int x, fun s e => (by cases e)⟩
  · exact ⟨th_tx (by omega) c, fun z e2 => (by cases e2; rw [S_len]; exact l2), fun ys e2 => (by cases e2)⟩
theorem come_len {h : List (List Nat)} (sm : Small h) {F : List ST} (nd : F.Nodup) (mF : ∀ e, e ∈ F ↔ Come h e) : (srtS F).length ≤ 60000 := by
  have pm : (srtS F).Perm F := List.mergeSort_perm F _
  rw [pm.length_eq]
  exact Nat.le_trans (nodup_le F (allS h) nd fun e m => mem_allS sm (((mF e).mp m).vs sm)) (allS_len sm)
theorem lo_mem {r s x : List Nat} (e : lo r s = some x) : ∀ c ∈ x, c ∈ r ∨ c ∈ s := by
  intro c mc
  unfold lo at e
  split at e
  · cases e
    exact .inl (List.mem_of_mem_drop mc)
  · split at e
    · cases e
      exact .inr (List.mem_of_mem_drop mc)
    · cases e
theorem kid_chr {h : List (List Nat)} {e x : ST} (he : ∀ c ∈ e.2, c ∈ lettersL) (hh : ∀ s ∈ h, ∀ c ∈ s, c < 0x110000) (m : x ∈ kidR h e) : ∀ c ∈ x.2, c < 0x110000 := by
  intro c mc
  unfold kidR at m
  obtain ⟨y, my, rfl⟩ := List.mem_map.mp m
  obtain ⟨y0, y1, _, _, _, yl⟩ := mem_nexts.mp my
  rcases lo_mem yl c mc with k | k
  · exact lett_lt c (he c k)
  · exact hh _ (shr_mem y0 y1) c k
section
variable {P : Program} {w : World} {K : PySem.W.Frag} {mg : Str → Option Value} {base : Heap} {ea : Nat → Addr} {et : Addr}
def sp_law : DSp := fun ss Q _ => ∃ ns, ss = [.va (scriptD ns)] ∧ ns.length ≤ 63 ∧ Q false (.bool true) ss
set_option maxHeartbeats 8000000 in
theorem ok_law {f : Addr} {fd : FuncData} (B : Bare mg) (cw : Cal P w K mg base "_law_well" 1 ["script", "k"] sp_well) (ck : Cal P w K mg base "_law_take" 1 ["well", "many"] sp_take) (csg : Cal P w K mg base "_law_signs" 2 ["well", "many", "kinds"] sp_signs) (chp : Cal P w K mg base "_law_heap" 4 ["well", "top"] sp_heap) (cb : Cal P w K mg base "beginnings" 5 ["heap"] sp_begin) (cm : Cal P w K mg base "_law_come" 2 ["heap"] sp_come) (cn : Cal P w K mg base "_law_next" 1 ["heap", "standing"] sp_lnext) (cs : Cal P w K mg base "_law_is_standing" 2 ["heap", "thing"] sp_lstanding) (cth : Cal P w K mg base "_law_thing" 5 ["well", "deep"] (sp_thing 3)) (co : Cal P w K mg base "_law_otherwise" 6 ["well", "thing", "deep"] (sp_oth 1 4)) (ca : Cal P w K mg base "_law_asked" 6 ["heap", "thing"] (sp_asked3 ea)) (cl : Cal P w K mg base "leads" 5 ["heap", "standing"] (sp_leads ea)) (F : Fun K "law" "law" s_law f fd) : FnOk P w K mg base (L2N.CX P w) 14 f fd ["script"] (toSp K sp_law) := by
  refine fn_okF F sc_law (by rintro ss P W ⟨_, rfl, _⟩; rfl) ?_
  rintro cdv A outer s H E hr ss Q W ⟨ns, rfl, hns, q⟩
  refine sd_cons (s1_for (.nm 1) (passes_of rfl) rfl (pg_nm sc_law.nd) (im_range1 B.range_ (em_callB B.max_ PyProof.Rows.boot_max (am_cons (em_int (am_cons (em_callB B.min_ PyProof.Rows.boot_min (am_cons (em_int (am_cons (em_callB B.len PySem.boot_len (am_cons (em_var 0 rfl (am_nil (kd_len_script (am_nil (kd_min2 rfl (am_nil (kd_max2 rfl ⟨_, rfl, ?_, ?_, ?_⟩)))))))))))))))))))
  · split <;> split <;> omega
  · split <;> split <;> omega
  generalize hN : (if (if (ns.length : Int) < 50 then (ns.length : Int) else 50) > 6 then (if (ns.length : Int) < 50 then (ns.length : Int) else 50) else 6) = N
  have hN2 : N ≤ 63 := by rw [← hN]; split <;> split <;> omega
  refine ⟨fun i ρ => ∃ s1 s2 s3 s4 s5 s6 s7 s8 s9 s10 s11 s12 s13 s14, ρ = [.va (scriptD ns), s1, s2, s3, s4, s5, s6, s7, s8, s9, s10, s11, s12, s13, s14], ⟨_, _, _, _, _, _, _, _, _, _, _, _, _, _, rfl⟩, ?_, ?_⟩
  · rintro i d ρ2 hd ⟨a1, a2, a3, a4, a5, a6, a7, a8, a9, a10, a11, a12, a13, a14, rfl⟩
    have hi : i < N.toNat := by
      have := (List.getElem?_eq_some_iff.mp hd).1
      simpa [rngD] using this
    have ed : d = .int (0 + (i : Int)) := by
      unfold rngD at hd
      rw [List.getElem?_map, List.getElem?_range hi] at hd
      exact (Option.some.inj hd).symm
    subst ed
    refine ⟨_, rfl, ?_⟩
    refine sd_cons (s1_set 2 sc_law.nd (vm_own (em_call cw (hr.mono (by decide)) (am_cons (em_var 0 rfl (am_cons (em_var 1 rfl (am_nil ⟨W0, fun _ z => z.elim, ns, 0 + (i : Int), rfl, by omega, by omega, fun ds hw => ⟨rfl, _, rfl, fun p => ?_⟩⟩))))))))
    have gd : ∀ {ρ : List Sl} {m : MO}, ρ[2]? = some (.mo p m) → ∀ as : List Arg, slotsOf as = [2] → GoodArgs ρ as := fun h as e => ⟨by rw [e]; simp, fun j hj => by rw [e] at hj; rw [List.mem_singleton.mp hj]; exact ⟨p, _, h⟩⟩
    refine sd_cons (s1_set 3 sc_law.nd (vm_data (em_callM chp (hr.mono (by decide)) (zm_s 2 rfl (zm_d (em_int (zm_nil ⟨gd rfl _ rfl, p, ds, 8, rfl, hw, by decide, by decide, fun ds2 l hw2 R => ?_⟩)))))))
    have hv := R.hv (by decide)
    generalize srt l = h at hv
    have h2 := hv.lo
    have h8 := hv.hi
    have hs := hv.small
    refine sd_re (ρ' := [.va (scriptD ns), .va (.int (0 + (i : Int))), .mo p (.lst ds2), .va (hpD h), a4, a5, a6, a7, a8, a9, a10, a11, a12, a13, a14]) rfl ?_
    -- beginnings
    refine sd_cons (s1_set 4 sc_law.nd (vm_own (em_call cb (hr.mono (by decide)) (am_cons (em_var 3 rfl (am_nil ⟨W0, fun _ z => z.elim, h, rfl, hv, rfl, _, rfl, fun pt => ?_⟩))))))
    have chB : ∀ e ∈ begins h, ∀ c ∈ e.2, c < 0x110000 := fun e m c mc => lett_lt c ((come_stF hv (.bg m)).le c mc)
    have shB : SeqAt.shaped (.list ((begins h).map stP)) = true := shaped_sts chB
    have lB : (begins h).length = h.length := by unfold begins; rw [List.length_map, List.length_range]
    refine sd_re (ρ' := [.va (scriptD ns), .va (.int (0 + (i : Int))), .mo p (.lst ds2), .va (hpD h), .mo pt (.lst ((begins h).map stP)), a5, a6, a7, a8, a9, a10, a11, a12, a13, a14]) rfl ?_
    refine sd_cons (s1_if (tm_view 4 rfl (fz_lst _) (tm_cmp (nomark _) (em_var 4 rfl (em_fm (.tp [.nm 12, .nm 13]) [("place", 12), ("shred", 13)] rfl sc_law.nd (blkOk_by (N := N_law) (sc := defScope s_law) (by decide +kernel)) (fun _ _ _ _ _ => pg_tp rfl (pgs_1 (pg_nm sc_law.nd) (pgs_1 (pg_nm sc_law.nd) pgs_0))) (by decide)
      (.map (fun i : Nat => .tuple [.int (i : Nat), (h.map tx).getD i .none]) (fun i => stD [(i : Int)] (shr h i)) (im_enumT B.enumerate_ (em_var 3 rfl ⟨_, rfl, List.range (h.map tx).length, rfl, small_line (by simp; omega), fun i hi => ⟨_, rfl, fun _ _ _ _ _ => ?_⟩, ?_⟩))))))))
    · have hi' : i < h.length := by simpa using List.mem_range.mp hi
      have et : (h.map tx).getD i PyData.none = tx (shr h i) := by
        unfold shr
        rw [List.getD_eq_getElem?_getD, List.getD_eq_getElem?_getD, List.getElem?_map]
        simp [List.getElem?_eq_getElem hi']
      refine em_tup (am_cons (em_tup (am_cons (em_var 12 rfl (am_nil ⟨small_line (by simp), rfl, ?_⟩)))))
      refine am_cons (em_var 13 rfl (am_nil ⟨small_line (by simp), ?_, rfl, ?_⟩))
      · rw [et]; rfl
      · rw [et]; rfl
    have e0 : (List.range (h.map tx).length).map (fun i : Nat => stD [(i : Int)] (shr h i)) = (begins h).map stP := by
      unfold begins
      rw [List.length_map, List.map_map]
      rfl
    rw [e0]
    refine fd_ne hr.units shB shB ⟨_, rfl, fun z => False.elim ?_, fun _ => sd_nil ?_⟩
    · rw [PySem.W.eqv_refl_alike _ (by rw [PySem.W.alike]; exact alike_sts _ _)] at z
      cases z
    refine sd_cons (s1_expr (em_append 4 rfl (em_none ⟨_, rfl, rfl, by rw [List.length_map, sizeLine_eq]; omega, ?_⟩)))
    refine sd_re (ρ' := [.va (scriptD ns), .va (.int (0 + (i : Int))), .mo p (.lst ds2), .va (hpD h), .mo pt (.lst ((begins h).map stP ++ [.none])), a5, a6, a7, a8, a9, a10, a11, a12, a13, a14]) rfl ?_
    refine sd_cons (s1_if (tm_view 4 rfl (fz_lst _) (tm_cmp (nomark _) (em_call cb (hr.mono (by decide)) (am_cons (em_var 3 rfl (am_nil ⟨W0, fun _ z => z.elim, h, rfl, hv, em_var 4 rfl (fd_eq hr.units shB (shaped_snoc shB) ⟨_, rfl, fun z => False.elim ?_, fun _ => sd_nil ?_⟩)⟩)))))))
    · rw [PyData.eqv, eqv_snoc] at z
      cases z
    -- what comes of the first five
    refine sd_cons (s1_set 5 sc_law.nd (vm_data (em_call cm (hr.mono (by decide)) (am_cons (em_sl (em_var 3 rfl (om_none (om_some (em_int ⟨5, rfl, ld_tuple ?_⟩)))))))))
    have ec : cut (h.map tx) none (some 5) = (h.take 5).map tx := by
      have := cut_take (h.map tx) 5
      rw [show ((5 : Nat) : Int) = 5 from rfl] at this
      rw [this, List.map_take]
    rw [ec]
    have hv5 := hv_take hv (k := 5) (by decide)
    refine am_nil ⟨W0, fun _ z => z.elim, h.take 5, rfl, hv5, fun FC nd mF => ?_⟩
    have lC := come_len hv5.small nd mF
    have pmC : (srtS FC).Perm FC := List.mergeSort_perm FC _
    have stC : ∀ e ∈ srtS FC, StF (h.take 5) e := fun e m => come_stF hv5 ((mF e).mp (pmC.mem_iff.mp m))
    have neC : 1 ≤ (srtS FC).length := by
      have lo5 := hv5.lo
      have hb : ([((0 : Nat) : Int)], shr (h.take 5) ((0 : Nat) : Int)) ∈ begins (h.take 5) := by
        unfold begins
        exact List.mem_map.mpr ⟨0, List.mem_range.mpr (by omega), rfl⟩
      have := pmC.mem_iff.mpr ((mF _).mpr (.bg hb))
      exact List.length_pos_of_mem this
    generalize srtS FC = C at lC stC neC
    have C8 : ∀ e ∈ C, e.1.length ≤ 8 ∧ e.2.length ≤ 10 ∧ ∀ c ∈ e.2, c < 0x110000 := fun e m => by
      have f := stC e m
      have h1 := nodup_le e.1 (rngI (h.take 5).length) (f.up.imp fun h => Int.ne_of_lt h) fun x mx => mem_rngI.mpr (f.pl x mx)
      rw [rngI_len, List.length_take] at h1
      exact ⟨by omega, f.ln, fun c mc => lett_lt c (f.le c mc)⟩
    refine sd_re (ρ' := [.va (scriptD ns), .va (.int (0 + (i : Int))), .mo p (.lst ds2), .va (hpD h), .mo pt (.lst ((begins h).map stP ++ [.none])), .va (.list (C.map stP)), a6, a7, a8, a9, a10, a11, a12, a13, a14]) rfl ?_
    generalize (begins h).map stP ++ [PyData.none] = T4
    -- some of them
    refine sd_cons (s1_setLc 6 (.nm 14) [("turn", 14)] rfl sc_law.nd (blkOk_by (N := N_law) (sc := defScope s_law) (by decide +kernel)) (fun _ _ _ _ _ => pg_nm sc_law.nd) (by decide) ?_ (by rfl))
    refine im_range1 B.range_ (em_int ⟨5, rfl, by decide, by decide, fun j ys ρ => ∃ ds', WellOk ds' ∧ ys.length = j ∧ (∀ d ∈ ys, ∃ e ∈ C, d = stP e) ∧ ρ = [.va (scriptD ns), .va (.int (0 + (i : Int))), .mo p (.lst ds'), .va (hpD h), .mo pt (.lst T4), .va (.list (C.map stP)), a6, a7, a8, a9, a10, a11, a12, a13, a14], ⟨ds2, hw2, rfl, fun _ m => absurd m List.not_mem_nil, rfl⟩, ?_, ?_⟩)
    · rintro j d ys ρ5 hd5 ⟨ds', hw', yl, yt, rfl⟩
      have hj : j < 5 := by
        have := (List.getElem?_eq_some_iff.mp hd5).1
        simpa [rngD] using this
      refine ⟨_, rfl, fun _ _ _ _ _ => ⟨fun _ _ _ _ _ _ => ?_, fun z => Bool.noConfusion z⟩⟩
      refine em_ix (fun _ _ => rfl) (em_var 5 rfl (em_callM ck (hr.mono (by decide)) (zm_s 2 rfl (zm_d (em_callB B.len PySem.boot_len (am_cons (em_var 5 rfl (am_nil (kd_len_list (zm_nil ⟨gd rfl _ rfl, p, ds', ((C.map stP).length : Int), rfl, hw', by rw [List.length_map]; omega, by rw [List.length_map]; omega, fun ds6 r hw6 r0 r1 => ?_⟩))))))))))
      rw [List.length_map] at r1
      have hr2 : r.toNat < C.length := by omega
      have hz : C[r.toNat]? = some C[r.toNat] := List.getElem?_eq_getElem hr2
      have hm := List.getElem_mem hr2
      generalize C[r.toNat] = z at hz hm
      refine id_list (d := stP z) (atI_of r0 (by rw [List.getElem?_map, hz]; rfl)) ⟨rfl, ?_, ds6, hw6, by simp [yl], fun x m => ?_, rfl⟩
      · rw [sizeLine_eq]
        omega
      · rcases List.mem_append.mp m with m | m
        · exact yt x m
        · exact ⟨z, hm, List.mem_singleton.mp m⟩
    rintro ys ρ5 ⟨ds6, hw6, yl, yt, rfl⟩ ps
    have yl5 : ys.length = 5 := by rw [yl]; rfl
    refine sd_re (ρ' := [.va (scriptD ns), .va (.int (0 + (i : Int))), .mo p (.lst ds6), .va (hpD h), .mo pt (.lst T4), .va (.list (C.map stP)), .mo ps (.lst ys), a7, a8, a9, a10, a11, a12, a13, a14]) rfl ?_
    -- places
    refine sd_cons (s1_set 7 sc_law.nd (vm_data (em_callTy B.tuple_ PyProof.Rows.boot_tuple (am_cons ?_))))
    refine em_lc (.nm 12) [("place", 12)] rfl sc_law.nd (blkOk_by (N := N_law) (sc := defScope s_law) (by decide +kernel)) (fun _ _ _ _ _ => pg_nm sc_law.nd) (by decide) ?_
    refine im_range1 B.range_ (em_callB B.len PySem.boot_len (am_cons (em_var 3 rfl (am_nil (kd_len_tuple ⟨((h.map tx).length : Int), rfl, by rw [List.length_map]; omega, by rw [List.length_map]; omega, fun j ys2 ρ => ∃ ds', ∃ us : List Int, WellOk ds' ∧ us.length ≤ j ∧ ys2 = us.map PyData.int ∧ ρ = [.va (scriptD ns), .va (.int (0 + (i : Int))), .mo p (.lst ds'), .va (hpD h), .mo pt (.lst T4), .va (.list (C.map stP)), .mo ps (.lst ys), a7, a8, a9, a10, a11, a12, a13, a14], ⟨ds6, [], hw6, Nat.le_refl _, rfl, rfl⟩, ?_, ?_⟩)))))
    · rintro j d ys2 ρ5 hd5 ⟨ds', us, hw', ul, rfl, rfl⟩
      have hj : j < h.length := by
        have := (List.getElem?_eq_some_iff.mp hd5).1
        rw [List.length_map] at this
        simpa [rngD] using this
      have ed5 : d = .int (0 + (j : Int)) := by
        unfold rngD at hd5
        rw [List.length_map, List.getElem?_map, List.getElem?_range (by omega)] at hd5
        exact (Option.some.inj hd5).symm
      subst ed5
      refine ⟨_, rfl, fun _ _ _ _ _ => ?_⟩
      refine (show TM false _ _ _ _ _ from ?_)
      refine tm_cmp (nomark _) (em_callM ck (hr.mono (by decide)) (zm_s 2 rfl (zm_d (em_int (zm_nil ⟨gd rfl _ rfl, p, ds', 3, rfl, hw', by decide, by decide, fun ds7 r hw7 r0 r1 => em_int (fd_eq_int ⟨_, rfl, fun z => fun _ _ _ _ _ => em_var 12 rfl ⟨rfl, ?_, ds7, us ++ [0 + (j : Int)], hw7, ?_, by simp, rfl⟩, fun z => ⟨ds7, us, hw7, by omega, rfl, rfl⟩⟩)⟩)))))
      · rw [List.length_map, sizeLine_eq]; omega
      · rw [List.length_append, List.length_singleton]; omega
    rintro ys2 ρ5 ⟨ds7, us, hw7, ul, rfl, rfl⟩
    have ul8 : us.length ≤ 8 := by
      rw [List.length_map] at ul
      have : (rngD 0 ((h.length : Int)).toNat).length = h.length := by simp [rngD]
      omega
    refine am_nil (kd_tuple_list ?_)
    refine sd_re (ρ' := [.va (scriptD ns), .va (.int (0 + (i : Int))), .mo p (.lst ds7), .va (hpD h), .mo pt (.lst T4), .va (.list (C.map stP)), .mo ps (.lst ys), .va (plD us), a8, a9, a10, a11, a12, a13, a14]) rfl ?_
    -- the rests
    have chS : ∀ s ∈ h, s.length ≤ 10 ∧ ∀ c ∈ s, c < 0x110000 := fun s m => ⟨(hv.each s m).2.1, fun c mc => lett_lt c ((hv.each s m).2.2 c mc)⟩
    obtain ⟨sl, msl, asl⟩ := at_last h2
    have a0 : atI (h.map tx) 0 = some (tx (shr h 0)) := hp_at (by decide) (by omega)
    have m0 : shr h 0 ∈ h := shr_mem (by decide) (by omega)
    refine sd_cons (s1_for (.nm 8) (passes_of rfl) rfl (pg_nm sc_law.nd) (im_list (em_lst ?_)))
    refine am_cons (em_str (am_cons (em_ix (fun _ _ => rfl) (em_var 3 rfl (em_un (em_int (gd_neg (id_tuple asl ?_))))))))
    refine am_cons (em_sl (em_ix (fun _ _ => rfl) (em_var 3 rfl (em_int (id_tuple a0 (om_none (om_some (em_int ⟨_, rfl, ld_str (small_line (by rw [S_len]; have := (chS _ m0).1; omega)) ?_⟩))))))))
    refine am_cons (em_callM csg (hr.mono (by decide)) (zm_s 2 rfl (zm_d (em_int (zm_d (em_int (zm_nil ⟨gd rfl _ rfl, p, ds7, 3, 2, rfl, hw7, by decide, by decide, by decide, by decide, fun ds8 t hw8 tl tc => ?_⟩)))))))
    refine am_cons (em_bin (em_str (em_int (fd_mul_str 11 rfl ⟨by decide, by decide⟩ ⟨by decide +kernel, by decide +kernel⟩ ?_))))
    refine am_nil ⟨small_line (by simp), rfl, ?_⟩
    rw [cutS_S]
    have tR : ∀ d ∈ ([.str "", tx sl, .str (S (cut (shr h 0) none (some 1))), tx t, .str (repStr 11 "a")] : List D), thB 4 d = true := by
      intro d md
      simp only [List.mem_cons, List.not_mem_nil, or_false] at md
      rcases md with rfl | rfl | rfl | rfl | rfl
      · decide +kernel
      · exact th_tx (by have := (chS _ msl).1; omega) (chS _ msl).2
      · have ec1 : cut (shr h 0) none (some 1) = (shr h 0).take 1 := cut_take (shr h 0) 1
        rw [ec1]
        exact th_tx (by rw [List.length_take]; omega) fun c mc => (chS _ m0).2 c (List.mem_of_mem_take mc)
      · exact th_tx (by omega) fun c mc => by have := tc c mc; omega
      · exact rep_th (by decide +kernel) (by decide) (by decide +kernel)
    generalize hR : ([.str "", tx sl, .str (S (cut (shr h 0) none (some 1))), tx t, .str (repStr 11 "a")] : List D) = R5 at tR
    have lR : R5.length = 5 := by rw [← hR]; rfl
    have thP : thB 4 (plD us) = true := th_tup2 (n := 3) (by rw [List.length_map]; omega) fun d md => by
      obtain ⟨x, _, rfl⟩ := List.mem_map.mp md
      exact th_int x
    refine ⟨R5, by rw [← hR], fun j ρ => ∃ zs s8, zs.length ≤ 5 + j ∧ (∃ e ∈ C, zs[0]? = some (stP e)) ∧ (∀ d ∈ zs, thB 5 d = true) ∧ ρ = [.va (scriptD ns), .va (.int (0 + (i : Int))), .mo p (.lst ds8), .va (hpD h), .mo pt (.lst T4), .va (.list (C.map stP)), .mo ps (.lst zs), .va (plD us), s8, a9, a10, a11, a12, a13, a14], ⟨ys, _, by omega, ?_, fun d md => ?_, rfl⟩, ?_, ?_⟩
    · obtain ⟨y, hy⟩ : ∃ y, ys[0]? = some y := ⟨_, List.getElem?_eq_getElem (by omega)⟩
      obtain ⟨e, me, rfl⟩ := yt y (List.mem_of_getElem? hy)
      exact ⟨e, me, hy⟩
    · obtain ⟨e, me, rfl⟩ := yt d md
      have := C8 e me
      exact th_st (by decide) (by omega) (by omega) this.2.2
    · rintro j d ρ3 hd3 ⟨zs, s8, zl, ze, zt, rfl⟩
      have hj : j < 5 := by
        have := (List.getElem?_eq_some_iff.mp hd3).1
        omega
      have td := tR d (List.mem_of_getElem? hd3)
      refine ⟨_, rfl, ?_⟩
      refine sd_one (s1_expr (em_append 6 rfl (em_tup (am_cons (em_var 7 rfl (am_cons (em_var 8 rfl (am_nil ⟨small_line (by simp), by rw [List.all_cons, List.all_cons, nd_th td, nd_th thP]; rfl, zs, rfl, rfl, by rw [sizeLine_eq]; omega, ?_⟩))))))))
      refine ⟨zs ++ [.tuple [plD us, d]], _, by rw [List.length_append]; simp; omega, ?_, fun x mx => ?_, rfl⟩
      · obtain ⟨e, me, e0⟩ := ze
        exact ⟨e, me, by rw [List.getElem?_append_left (List.getElem?_eq_some_iff.mp e0).1]; exact e0⟩
      · rcases List.mem_append.mp mx with mx | mx
        · exact zt x mx
        · rw [List.mem_singleton.mp mx]
          exact th_two thP td
    rintro ρ3 ⟨zs, s8, zl, ⟨e0, me0, z0⟩, zt, rfl⟩
    rw [lR] at zl
    refine sd_freeze 6 rfl (fz_lst _) ?_
    refine sd_re (ρ' := [.va (scriptD ns), .va (.int (0 + (i : Int))), .mo p (.lst ds8), .va (hpD h), .mo pt (.lst T4), .va (.list (C.map stP)), .va (.list zs), .va (plD us), s8, a9, a10, a11, a12, a13, a14]) rfl ?_
    -- what is none by its form
    refine sd_cons (s1_set 6 sc_law.nd (vm_data (em_bin (em_var 6 rfl (em_lst ?_)))))
    repeat (first | walk_at "e" | refine ⟨small_line (by simp), rfl, ?_⟩)
    refine fd_add_list (small_line (by simp; omega)) ?_
    have tN : ∀ d ∈ ([.tuple [.tuple [.int 0, .int 0], .str "a"], .tuple [.tuple [.int 0], .str "A"], .tuple [.tuple [.int 0], .int 1], .tuple [.tuple [.bool true], .str "a"], .tuple [.list [.int 0], .str "a"], .tuple [.tuple [.int 0]], .tuple [.tuple [.int 8], .str "a"], .none] : List D), thB 5 d = true := by
      intro d md
      simp only [List.mem_cons, List.not_mem_nil, or_false] at md
      rcases md with rfl | rfl | rfl | rfl | rfl | rfl | rfl | rfl <;> decide +kernel
    generalize hLN : ([.tuple [.tuple [.int 0, .int 0], .str "a"], .tuple [.tuple [.int 0], .str "A"], .tuple [.tuple [.int 0], .int 1], .tuple [.tuple [.bool true], .str "a"], .tuple [.list [.int 0], .str "a"], .tuple [.tuple [.int 0]], .tuple [.tuple [.int 8], .str "a"], .none] : List D) = LN at tN
    have lN : LN.length = 8 := by rw [← hLN]; rfl
    refine sd_re (ρ' := [.va (scriptD ns), .va (.int (0 + (i : Int))), .mo p (.lst ds8), .va (hpD h), .mo pt (.lst T4), .va (.list (C.map stP)), .va (.list (zs ++ LN)), .va (plD us), s8, a9, a10, a11, a12, a13, a14]) (by rw [← hLN]; rfl) ?_
    have z0' : (zs ++ LN)[0]? = some (stP e0) := by rw [List.getElem?_append_left (List.getElem?_eq_some_iff.mp z0).1]; exact z0
    have f0 := C8 e0 me0
    refine sd_cons (s1_for (.nm 9) (passes_of rfl) rfl (pg_nm sc_law.nd) (im_list (em_bin (em_var 6 rfl (em_lst ?_)))))
    refine am_cons (em_callM co (hr.mono (by decide)) (zm_s 2 rfl (zm_d (em_ix (fun _ _ => rfl) (em_var 6 rfl (em_int (id_list (d := stP e0) (atI_of (by decide) z0') (zm_d (em_int (zm_nil ⟨gd rfl _ rfl, p, ds8, [plD e0.1, tx e0.2], rfl, hw8, by simp, in_st (by omega) (by omega) f0.2.2, fun ds9 d2 hw9 hd2 => ?_⟩))))))))))
    refine am_cons (em_callM cth (hr.mono (by decide)) (zm_s 2 rfl (zm_d (em_int (zm_nil ⟨gd rfl _ rfl, p, ds9, 3, rfl, rfl, hw9, fun ds10 d3 hw10 hd3 => ?_⟩)))))
    refine am_nil ⟨small_line (by simp), by rw [List.all_cons, List.all_cons, nd_th hd2, nd_th hd3]; rfl, fd_add_list (small_line (by simp; omega)) ?_⟩
    have tE : ∀ d ∈ (zs ++ LN) ++ [d2, d3], thB 5 d = true := by
      intro d md
      rcases List.mem_append.mp md with md | md
      · rcases List.mem_append.mp md with md | md
        · exact zt d md
        · exact tN d md
      · simp only [List.mem_cons, List.not_mem_nil, or_false] at md
        rcases md with rfl | rfl
        · exact hd2
        · exact thB_mono hd3 (by decide)
    generalize (zs ++ LN) ++ [d2, d3] = L at tE
    generalize zs ++ LN = L6
    refine ⟨L, rfl, fun j ρ => ∃ s9 s10 s11, ρ = [.va (scriptD ns), .va (.int (0 + (i : Int))), .mo p (.lst ds10), .va (hpD h), .mo pt (.lst T4), .va (.list (C.map stP)), .va (.list L6), .va (plD us), s8, s9, s10, s11, a12, a13, a14], ⟨_, _, _, rfl⟩, ?_, ?_⟩
    · rintro j d ρ3 hd3 ⟨s9, s10, s11, rfl⟩
      have th := thB_th (by decide) (tE d (List.mem_of_getElem? hd3))
      refine ⟨_, rfl, ?_⟩
      cases k : stB h d with
      | true =>
        obtain ⟨ed, sf⟩ := stB_is k
        have l1 : (stOf d).1.length ≤ 8 := by
          have h1 := nodup_le (stOf d).1 (rngI h.length) (sf.up.imp fun h => Int.ne_of_lt h) fun x m => mem_rngI.mpr (sf.pl x m)
          rw [rngI_len] at h1
          omega
        have l2 := sf.ln
        refine sd_cons (s1_set 10 sc_law.nd (vm_data (em_ite (tm_val (em_call cs (hr.mono (by decide)) (am_cons (em_var 3 rfl (am_cons (em_var 9 rfl (am_nil ⟨W0, fun _ z => z.elim, h, d, rfl, hv, th, _, rfl, fun _ => ?_, fun z => (by rw [k] at z; cases z)⟩))))))))))
        refine em_call cn (hr.mono (by decide)) (am_cons (em_var 3 rfl (am_cons (em_var 9 rfl (am_nil ⟨W0, fun _ z => z.elim, h, (stOf d).1, (stOf d).2, congrArg (fun z => [Sl.va (hpD h), Sl.va z]) ed, hs, by omega, by omega, fun l nl ml => ?_⟩)))))
        have same : ∀ l' : List ST, l'.Nodup → (∀ x, x ∈ l' ↔ x ∈ kidR h (stOf d)) → srtS l' = srtS l := fun l' n' m' => srtS_perm (same_perm n' nl fun x => by rw [m', ml])
        have kl : l.length ≤ 8 := Nat.le_trans (nodup_le l (kidR h (stOf d)) nl fun x m => (ml x).mp m) (kid_le8 hs _)
        have chK : ∀ e ∈ srtS l, ∀ c ∈ e.2, c < 0x110000 := fun e m => kid_chr sf.le (fun s m2 => (chS s m2).2) ((ml e).mp ((List.mergeSort_perm l _ : (srtS l).Perm l).mem_iff.mp m))
        have shK := shaped_sts chK
        have kl2 : (srtS l).length ≤ 8 := by
          have e9 : (srtS l).length = l.length := (List.mergeSort_perm l _ : (srtS l).Perm l).length_eq
          omega
        refine sd_re (ρ' := [.va (scriptD ns), .va (.int (0 + (i : Int))), .mo p (.lst ds10), .va (hpD h), .mo pt (.lst T4), .va (.list (C.map stP)), .va (.list L6), .va (plD us), s8, .va d, .va (.list ((srtS l).map stP)), s11, a12, a13, a14]) rfl ?_
        refine sd_cons (s1_set 11 sc_law.nd (vm_own (em_call ca (hr.mono (by decide)) (am_cons (em_var 3 rfl (am_cons (em_var 9 rfl (am_nil ⟨W0, fun _ z => z.elim, h, d, rfl, hv, th.tm, fun _ l' n' m' => ⟨rfl, _, by rw [same l' n' m'], fun pf => ?_⟩, fun z => (by rw [k] at z; cases z)⟩))))))))
        refine sd_re (ρ' := [.va (scriptD ns), .va (.int (0 + (i : Int))), .mo p (.lst ds10), .va (hpD h), .mo pt (.lst T4), .va (.list (C.map stP)), .va (.list L6), .va (plD us), s8, .va d, .va (.list ((srtS l).map stP)), .mo pf (.lst ((srtS l).map stP)), a12, a13, a14]) rfl ?_
        refine sd_cons (s1_if (tm_view 11 rfl (fz_lst _) (tm_cmp (nomark _) (em_var 11 rfl (em_var 10 rfl (fd_ne hr.units shK shK ⟨_, rfl, fun z => False.elim ?_, fun _ => sd_nil ?_⟩))))))
        · rw [PySem.W.eqv_refl_alike _ (by rw [PySem.W.alike]; exact alike_sts _ _)] at z
          cases z
        refine sd_one (s1_if (tm_view 11 rfl (fz_lst _) (tm_val (em_isi (.inr (.inr (.inr (.inr rfl)))) B.isinstance_ B.list_ boot_list (em_var 11 rfl ⟨rfl, _, rfl, fun _ => ?_, fun z => Bool.noConfusion z⟩)))))
        refine sd_cons (s1_expr (em_append 11 rfl (em_none ⟨_, rfl, rfl, by rw [List.length_map, sizeLine_eq]; omega, ?_⟩)))
        refine sd_re (ρ' := [.va (scriptD ns), .va (.int (0 + (i : Int))), .mo p (.lst ds10), .va (hpD h), .mo pt (.lst T4), .va (.list (C.map stP)), .va (.list L6), .va (plD us), s8, .va d, .va (.list ((srtS l).map stP)), .mo pf (.lst ((srtS l).map stP ++ [.none])), a12, a13, a14]) rfl ?_
        refine sd_one (s1_if (tm_cmp (nomark _) (em_call cl (hr.mono (by decide)) (am_cons (em_var 3 rfl (am_cons (em_var 9 rfl (am_nil ⟨W0, fun _ z => z.elim, h, d, rfl, hv, th.tm, fun _ l' n' m' => em_var 10 rfl (fd_ne hr.units (by rw [same l' n' m']; exact shK) shK ⟨_, rfl, fun z => False.elim ?_, fun _ => sd_nil ⟨_, _, _, rfl⟩⟩), fun z => (by rw [k] at z; cases z)⟩))))))))
        rw [same l' n' m', PySem.W.eqv_refl_alike _ (by rw [PySem.W.alike]; exact alike_sts _ _)] at z
        cases z
      | false =>
        refine sd_cons (s1_set 10 sc_law.nd (vm_data (em_ite (tm_val (em_call cs (hr.mono (by decide)) (am_cons (em_var 3 rfl (am_cons (em_var 9 rfl (am_nil ⟨W0, fun _ z => z.elim, h, d, rfl, hv, th, _, rfl, fun z => (by rw [k] at z; cases z), fun _ => em_str ?_⟩))))))))))
        refine sd_cons (s1_set 11 sc_law.nd (vm_data (em_call ca (hr.mono (by decide)) (am_cons (em_var 3 rfl (am_cons (em_var 9 rfl (am_nil ⟨W0, fun _ z => z.elim, h, d, rfl, hv, th.tm, fun z => (by rw [k] at z; cases z), fun _ => ?_⟩))))))))
        refine sd_cons (s1_if (tm_cmp (nomark _) (em_var 11 rfl (em_var 10 rfl (fd_ne_str ⟨_, rfl, fun z => absurd z (by decide +kernel), fun _ => sd_nil ?_⟩)))))
        refine sd_one (s1_if (tm_val (em_isi (.inr (.inr (.inr (.inr rfl)))) B.isinstance_ B.list_ boot_list (em_var 11 rfl ⟨rfl, _, rfl, fun z => absurd z (by decide), fun _ => sd_nil ⟨_, _, _, rfl⟩⟩))))
    · rintro ρ3 ⟨s9, s10, s11, rfl⟩
      exact sd_nil ⟨_, _, _, _, _, _, _, _, _, _, _, _, _, _, rfl⟩
  · rintro ρ2 ⟨a1, a2, a3, a4, a5, a6, a7, a8, a9, a10, a11, a12, a13, a14, rfl⟩
    exact sd_one (s1_ret (em_bool (FinP.va (ds := [scriptD ns]) q)))
end

/-! ### classes: what isinstance and except ask -/
theorem kit_ref {K : PySem.W.Frag} {C : Addr} {t : Value} {b : Bool} (hd : PySem.W.hasDictIn K C = true) (ht : PySem.W.typeIn K (.ref C) = some (.type "type")) (hs : PySem.W.subIn K t (.ref C) = some b) (h : t = .ref C → b = true) : PySem.W.kitOne K t (.ref C) = some b := by
  obtain ⟨cd, hc, _⟩ := PySem.W.any_some hd
  have e2 : ((PySem.W.clsIn K C).isSome && PySem.W.typeIn K (.ref C) == some (.type "type")) = true := by rw [hc, ht] <;> rfl
  unfold PySem.W.kitOne
  by_cases c : (t == Value.ref C) = true
  · rw [if_pos c, h (beq_iff_eq.mp c)]
  · rw [if_neg c]
    show (if ((PySem.W.clsIn K C).isSome && PySem.W.typeIn K (.ref C) == some (.type "type")) = true then PySem.W.subIn K t (.ref C) else none) = some b
    rw [if_pos e2]
    exact hs
theorem kit_val {K : PySem.W.Frag} {D : Addr} {b : Bool} (hs : PySem.W.subIn K (.ref D) (.type "ValueError") = some b) : PySem.W.kitOne K (.ref D) (.type "ValueError") = some b := by
  unfold PySem.W.kitOne
  have ne : ¬ ((Value.ref D == Value.type "ValueError") = true) := fun z => by
    have := beq_iff_eq.mp z
    cases this
  rw [if_neg ne]
  show (if PySem.W.kitMeta "ValueError" = true then PySem.W.subIn K (.ref D) (.type "ValueError") else none) = some b
  rw [if_pos (by decide +kernel)]
  exact hs

set_option maxHeartbeats 8000000 in
theorem all_mk {l : PySem.W.OpenLaw} {w : World} {K : PySem.W.Frag} {h : Heap} {mg : Str → Option Value} {fa f_is_whole f_are_signs f_are_shreds f_is_heap f_need_heap f_are_places f_all_beginnings f_left_over f_next_to f_is_standing f_beginnings f_leads f_law_well f_law_take f_law_is_int f_law_thing f_law_otherwise f_law_kinds f_law_refusal f_law_signs f_law_cut f_law_twins f_law_heap f_law_next f_law_come f_law_is_standing f_law_asked f_law : Addr} (X : K.In h) (G : h.Ns mainGlobals mg) (hfa : mg "law" = some (.ref fa))
    {od_is_whole an_is_whole od_are_signs an_are_signs od_are_shreds an_are_shreds od_is_heap an_is_heap od_need_heap an_need_heap od_are_places an_are_places od_all_beginnings an_all_beginnings od_left_over an_left_over od_next_to an_next_to od_is_standing an_is_standing od_beginnings an_beginnings od_leads an_leads od_law_well an_law_well od_law_take an_law_take od_law_is_int an_law_is_int od_law_thing an_law_thing od_law_otherwise an_law_otherwise od_law_kinds an_law_kinds od_law_refusal an_law_refusal od_law_signs an_law_signs od_law_cut an_law_cut od_law_twins an_law_twins od_law_heap an_law_heap od_law_next an_law_next od_law_come an_law_come od_law_is_standing an_law_is_standing od_law_asked an_law_asked od_law an_law : Option Addr} {sl_is_whole sl_are_signs sl_are_shreds sl_is_heap sl_need_heap sl_are_places sl_all_beginnings sl_left_over sl_next_to sl_is_standing sl_beginnings sl_leads sl_law_well sl_law_take sl_law_is_int sl_law_thing sl_law_otherwise sl_law_kinds sl_law_refusal sl_law_signs sl_law_cut sl_law_twins sl_law_heap sl_law_next sl_law_come sl_law_is_standing sl_law_asked sl_law : Array (Option Value)} {oc_is_whole kV_is_whole dc_is_whole pm_is_whole cd_is_whole ct_is_whole oc_are_signs kV_are_signs dc_are_signs pm_are_signs cd_are_signs ct_are_signs oc_are_shreds kV_are_shreds dc_are_shreds pm_are_shreds cd_are_shreds ct_are_shreds oc_is_heap kV_is_heap dc_is_heap pm_is_heap cd_is_heap ct_is_heap oc_need_heap kV_need_heap dc_need_heap pm_need_heap cd_need_heap ct_need_heap oc_are_places kV_are_places dc_are_places pm_are_places cd_are_places ct_are_places oc_all_beginnings kV_all_beginnings dc_all_beginnings pm_all_beginnings cd_all_beginnings ct_all_beginnings oc_left_over kV_left_over dc_left_over pm_left_over cd_left_over ct_left_over oc_next_to kV_next_to dc_next_to pm_next_to cd_next_to ct_next_to oc_is_standing kV_is_standing dc_is_standing pm_is_standing cd_is_standing ct_is_standing oc_beginnings kV_beginnings dc_beginnings pm_beginnings cd_beginnings ct_beginnings oc_leads kV_leads dc_leads pm_leads cd_leads ct_leads oc_law_well kV_law_well dc_law_well pm_law_well cd_law_well ct_law_well oc_law_take kV_law_take dc_law_take pm_law_take cd_law_take ct_law_take oc_law_is_int kV_law_is_int dc_law_is_int pm_law_is_int cd_law_is_int ct_law_is_int oc_law_thing kV_law_thing dc_law_thing pm_law_thing cd_law_thing ct_law_thing oc_law_otherwise kV_law_otherwise dc_law_otherwise pm_law_otherwise cd_law_otherwise ct_law_otherwise oc_law_kinds kV_law_kinds dc_law_kinds pm_law_kinds cd_law_kinds ct_law_kinds oc_law_refusal kV_law_refusal dc_law_refusal pm_law_refusal cd_law_refusal ct_law_refusal oc_law_signs kV_law_signs dc_law_signs pm_law_signs cd_law_signs ct_law_signs oc_law_cut kV_law_cut dc_law_cut pm_law_cut cd_law_cut ct_law_cut oc_law_twins kV_law_twins dc_law_twins pm_law_twins cd_law_twins ct_law_twins oc_law_heap kV_law_heap dc_law_heap pm_law_heap cd_law_heap ct_law_heap oc_law_next kV_law_next dc_law_next pm_law_next cd_law_next ct_law_next oc_law_come kV_law_come dc_law_come pm_law_come cd_law_come ct_law_come oc_law_is_standing kV_law_is_standing dc_law_is_standing pm_law_is_standing cd_law_is_standing ct_law_is_standing oc_law_asked kV_law_asked dc_law_asked pm_law_asked cd_law_asked ct_law_asked oc_law kV_law dc_law pm_law cd_law ct_law : Value} {t1 t2 t3 : Tok}
    (a_is_whole : PySem.W.nsIn K mainGlobals "is_whole" = some (some (.ref f_is_whole))) (l_is_whole : K.lookup f_is_whole = some ⟨oc_is_whole, od_is_whole, .func (PySem.W.fnOf "is_whole" "is_whole" (defArgs s_is_whole) (defBody s_is_whole) (defScope s_is_whole) .none kV_is_whole dc_is_whole pm_is_whole an_is_whole cd_is_whole ct_is_whole), sl_is_whole⟩) (c_is_whole : PySem.W.codeIn K cd_is_whole "is_whole" = true) (k_is_whole : PySem.W.keepIn K (.ref f_is_whole) = true)
    (a_are_signs : PySem.W.nsIn K mainGlobals "are_signs" = some (some (.ref f_are_signs))) (l_are_signs : K.lookup f_are_signs = some ⟨oc_are_signs, od_are_signs, .func (PySem.W.fnOf "are_signs" "are_signs" (defArgs s_are_signs) (defBody s_are_signs) (defScope s_are_signs) .none kV_are_signs dc_are_signs pm_are_signs an_are_signs cd_are_signs ct_are_signs), sl_are_signs⟩) (c_are_signs : PySem.W.codeIn K cd_are_signs "are_signs" = true) (k_are_signs : PySem.W.keepIn K (.ref f_are_signs) = true)
    (a_are_shreds : PySem.W.nsIn K mainGlobals "are_shreds" = some (some (.ref f_are_shreds))) (l_are_shreds : K.lookup f_are_shreds = some ⟨oc_are_shreds, od_are_shreds, .func (PySem.W.fnOf "are_shreds" "are_shreds" (defArgs s_are_shreds) (defBody s_are_shreds) (defScope s_are_shreds) .none kV_are_shreds dc_are_shreds pm_are_shreds an_are_shreds cd_are_shreds ct_are_shreds), sl_are_shreds⟩) (c_are_shreds : PySem.W.codeIn K cd_are_shreds "are_shreds" = true) (k_are_shreds : PySem.W.keepIn K (.ref f_are_shreds) = true)
    (a_is_heap : PySem.W.nsIn K mainGlobals "is_heap" = some (some (.ref f_is_heap))) (l_is_heap : K.lookup f_is_heap = some ⟨oc_is_heap, od_is_heap, .func (PySem.W.fnOf "is_heap" "is_heap" (defArgs s_is_heap) (defBody s_is_heap) (defScope s_is_heap) .none kV_is_heap dc_is_heap pm_is_heap an_is_heap cd_is_heap ct_is_heap), sl_is_heap⟩) (c_is_heap : PySem.W.codeIn K cd_is_heap "is_heap" = true) (k_is_heap : PySem.W.keepIn K (.ref f_is_heap) = true)
    (a_need_heap : PySem.W.nsIn K mainGlobals "need_heap" = some (some (.ref f_need_heap))) (l_need_heap : K.lookup f_need_heap = some ⟨oc_need_heap, od_need_heap, .func (PySem.W.fnOf "need_heap" "need_heap" (defArgs s_need_heap) (defBody s_need_heap) (defScope s_need_heap) .none kV_need_heap dc_need_heap pm_need_heap an_need_heap cd_need_heap ct_need_heap), sl_need_heap⟩) (c_need_heap : PySem.W.codeIn K cd_need_heap "need_heap" = true) (k_need_heap : PySem.W.keepIn K (.ref f_need_heap) = true)
    (a_are_places : PySem.W.nsIn K mainGlobals "are_places" = some (some (.ref f_are_places))) (l_are_places : K.lookup f_are_places = some ⟨oc_are_places, od_are_places, .func (PySem.W.fnOf "are_places" "are_places" (defArgs s_are_places) (defBody s_are_places) (defScope s_are_places) .none kV_are_places dc_are_places pm_are_places an_are_places cd_are_places ct_are_places), sl_are_places⟩) (c_are_places : PySem.W.codeIn K cd_are_places "are_places" = true) (k_are_places : PySem.W.keepIn K (.ref f_are_places) = true)
    (a_all_beginnings : PySem.W.nsIn K mainGlobals "all_beginnings" = some (some (.ref f_all_beginnings))) (l_all_beginnings : K.lookup f_all_beginnings = some ⟨oc_all_beginnings, od_all_beginnings, .func (PySem.W.fnOf "all_beginnings" "all_beginnings" (defArgs s_all_beginnings) (defBody s_all_beginnings) (defScope s_all_beginnings) .none kV_all_beginnings dc_all_beginnings pm_all_beginnings an_all_beginnings cd_all_beginnings ct_all_beginnings), sl_all_beginnings⟩) (c_all_beginnings : PySem.W.codeIn K cd_all_beginnings "all_beginnings" = true) (k_all_beginnings : PySem.W.keepIn K (.ref f_all_beginnings) = true)
    (a_left_over : PySem.W.nsIn K mainGlobals "left_over" = some (some (.ref f_left_over))) (l_left_over : K.lookup f_left_over = some ⟨oc_left_over, od_left_over, .func (PySem.W.fnOf "left_over" "left_over" (defArgs s_left_over) (defBody s_left_over) (defScope s_left_over) .none kV_left_over dc_left_over pm_left_over an_left_over cd_left_over ct_left_over), sl_left_over⟩) (c_left_over : PySem.W.codeIn K cd_left_over "left_over" = true) (k_left_over : PySem.W.keepIn K (.ref f_left_over) = true)
    (a_next_to : PySem.W.nsIn K mainGlobals "next_to" = some (some (.ref f_next_to))) (l_next_to : K.lookup f_next_to = some ⟨oc_next_to, od_next_to, .func (PySem.W.fnOf "next_to" "next_to" (defArgs s_next_to) (defBody s_next_to) (defScope s_next_to) .none kV_next_to dc_next_to pm_next_to an_next_to cd_next_to ct_next_to), sl_next_to⟩) (c_next_to : PySem.W.codeIn K cd_next_to "next_to" = true) (k_next_to : PySem.W.keepIn K (.ref f_next_to) = true)
    (a_is_standing : PySem.W.nsIn K mainGlobals "is_standing" = some (some (.ref f_is_standing))) (l_is_standing : K.lookup f_is_standing = some ⟨oc_is_standing, od_is_standing, .func (PySem.W.fnOf "is_standing" "is_standing" (defArgs s_is_standing) (defBody s_is_standing) (defScope s_is_standing) .none kV_is_standing dc_is_standing pm_is_standing an_is_standing cd_is_standing ct_is_standing), sl_is_standing⟩) (c_is_standing : PySem.W.codeIn K cd_is_standing "is_standing" = true) (k_is_standing : PySem.W.keepIn K (.ref f_is_standing) = true)
    (a_beginnings : PySem.W.nsIn K mainGlobals "beginnings" = some (some (.ref f_beginnings))) (l_beginnings : K.lookup f_beginnings = some ⟨oc_beginnings, od_beginnings, .func (PySem.W.fnOf "beginnings" "beginnings" (defArgs s_beginnings) (defBody s_beginnings) (defScope s_beginnings) .none kV_beginnings dc_beginnings pm_beginnings an_beginnings cd_beginnings ct_beginnings), sl_beginnings⟩) (c_beginnings : PySem.W.codeIn K cd_beginnings "beginnings" = true) (k_beginnings : PySem.W.keepIn K (.ref f_beginnings) = true)
    (a_leads : PySem.W.nsIn K mainGlobals "leads" = some (some (.ref f_leads))) (l_leads : K.lookup f_leads = some ⟨oc_leads, od_leads, .func (PySem.W.fnOf "leads" "leads" (defArgs s_leads) (defBody s_leads) (defScope s_leads) .none kV_leads dc_leads pm_leads an_leads cd_leads ct_leads), sl_leads⟩) (c_leads : PySem.W.codeIn K cd_leads "leads" = true) (k_leads : PySem.W.keepIn K (.ref f_leads) = true)
    (a_law_well : PySem.W.nsIn K mainGlobals "_law_well" = some (some (.ref f_law_well))) (l_law_well : K.lookup f_law_well = some ⟨oc_law_well, od_law_well, .func (PySem.W.fnOf "_law_well" "_law_well" (defArgs s_law_well) (defBody s_law_well) (defScope s_law_well) .none kV_law_well dc_law_well pm_law_well an_law_well cd_law_well ct_law_well), sl_law_well⟩) (c_law_well : PySem.W.codeIn K cd_law_well "_law_well" = true) (k_law_well : PySem.W.keepIn K (.ref f_law_well) = true)
    (a_law_take : PySem.W.nsIn K mainGlobals "_law_take" = some (some (.ref f_law_take))) (l_law_take : K.lookup f_law_take = some ⟨oc_law_take, od_law_take, .func (PySem.W.fnOf "_law_take" "_law_take" (defArgs s_law_take) (defBody s_law_take) (defScope s_law_take) .none kV_law_take dc_law_take pm_law_take an_law_take cd_law_take ct_law_take), sl_law_take⟩) (c_law_take : PySem.W.codeIn K cd_law_take "_law_take" = true) (k_law_take : PySem.W.keepIn K (.ref f_law_take) = true)
    (a_law_is_int : PySem.W.nsIn K mainGlobals "_law_is_int" = some (some (.ref f_law_is_int))) (l_law_is_int : K.lookup f_law_is_int = some ⟨oc_law_is_int, od_law_is_int, .func (PySem.W.fnOf "_law_is_int" "_law_is_int" (defArgs s_law_is_int) (defBody s_law_is_int) (defScope s_law_is_int) .none kV_law_is_int dc_law_is_int pm_law_is_int an_law_is_int cd_law_is_int ct_law_is_int), sl_law_is_int⟩) (c_law_is_int : PySem.W.codeIn K cd_law_is_int "_law_is_int" = true) (k_law_is_int : PySem.W.keepIn K (.ref f_law_is_int) = true)
    (a_law_thing : PySem.W.nsIn K mainGlobals "_law_thing" = some (some (.ref f_law_thing))) (l_law_thing : K.lookup f_law_thing = some ⟨oc_law_thing, od_law_thing, .func (PySem.W.fnOf "_law_thing" "_law_thing" (defArgs s_law_thing) (defBody s_law_thing) (defScope s_law_thing) .none kV_law_thing dc_law_thing pm_law_thing an_law_thing cd_law_thing ct_law_thing), sl_law_thing⟩) (c_law_thing : PySem.W.codeIn K cd_law_thing "_law_thing" = true) (k_law_thing : PySem.W.keepIn K (.ref f_law_thing) = true)
    (a_law_otherwise : PySem.W.nsIn K mainGlobals "_law_otherwise" = some (some (.ref f_law_otherwise))) (l_law_otherwise : K.lookup f_law_otherwise = some ⟨oc_law_otherwise, od_law_otherwise, .func (PySem.W.fnOf "_law_otherwise" "_law_otherwise" (defArgs s_law_otherwise) (defBody s_law_otherwise) (defScope s_law_otherwise) .none kV_law_otherwise dc_law_otherwise pm_law_otherwise an_law_otherwise cd_law_otherwise ct_law_otherwise), sl_law_otherwise⟩) (c_law_otherwise : PySem.W.codeIn K cd_law_otherwise "_law_otherwise" = true) (k_law_otherwise : PySem.W.keepIn K (.ref f_law_otherwise) = true)
    (a_law_kinds : PySem.W.nsIn K mainGlobals "_law_kinds" = some (some (.ref f_law_kinds))) (l_law_kinds : K.lookup f_law_kinds = some ⟨oc_law_kinds, od_law_kinds, .func (PySem.W.fnOf "_law_kinds" "_law_kinds" (defArgs s_law_kinds) (defBody s_law_kinds) (defScope s_law_kinds) .none kV_law_kinds dc_law_kinds pm_law_kinds an_law_kinds cd_law_kinds ct_law_kinds), sl_law_kinds⟩) (c_law_kinds : PySem.W.codeIn K cd_law_kinds "_law_kinds" = true) (k_law_kinds : PySem.W.keepIn K (.ref f_law_kinds) = true)
    (a_law_refusal : PySem.W.nsIn K mainGlobals "_law_refusal" = some (some (.ref f_law_refusal))) (l_law_refusal : K.lookup f_law_refusal = some ⟨oc_law_refusal, od_law_refusal, .func (PySem.W.fnOf "_law_refusal" "_law_refusal" (defArgs s_law_refusal) (defBody s_law_refusal) (defScope s_law_refusal) .none kV_law_refusal dc_law_refusal pm_law_refusal an_law_refusal cd_law_refusal ct_law_refusal), sl_law_refusal⟩) (c_law_refusal : PySem.W.codeIn K cd_law_refusal "_law_refusal" = true) (k_law_refusal : PySem.W.keepIn K (.ref f_law_refusal) = true)
    (a_law_signs : PySem.W.nsIn K mainGlobals "_law_signs" = some (some (.ref f_law_signs))) (l_law_signs : K.lookup f_law_signs = some ⟨oc_law_signs, od_law_signs, .func (PySem.W.fnOf "_law_signs" "_law_signs" (defArgs s_law_signs) (defBody s_law_signs) (defScope s_law_signs) .none kV_law_signs dc_law_signs pm_law_signs an_law_signs cd_law_signs ct_law_signs), sl_law_signs⟩) (c_law_signs : PySem.W.codeIn K cd_law_signs "_law_signs" = true) (k_law_signs : PySem.W.keepIn K (.ref f_law_signs) = true)
    (a_law_cut : PySem.W.nsIn K mainGlobals "_law_cut" = some (some (.ref f_law_cut))) (l_law_cut : K.lookup f_law_cut = some ⟨oc_law_cut, od_law_cut, .func (PySem.W.fnOf "_law_cut" "_law_cut" (defArgs s_law_cut) (defBody s_law_cut) (defScope s_law_cut) .none kV_law_cut dc_law_cut pm_law_cut an_law_cut cd_law_cut ct_law_cut), sl_law_cut⟩) (c_law_cut : PySem.W.codeIn K cd_law_cut "_law_cut" = true) (k_law_cut : PySem.W.keepIn K (.ref f_law_cut) = true)
    (a_law_twins : PySem.W.nsIn K mainGlobals "_law_twins" = some (some (.ref f_law_twins))) (l_law_twins : K.lookup f_law_twins = some ⟨oc_law_twins, od_law_twins, .func (PySem.W.fnOf "_law_twins" "_law_twins" (defArgs s_law_twins) (defBody s_law_twins) (defScope s_law_twins) .none kV_law_twins dc_law_twins pm_law_twins an_law_twins cd_law_twins ct_law_twins), sl_law_twins⟩) (c_law_twins : PySem.W.codeIn K cd_law_twins "_law_twins" = true) (k_law_twins : PySem.W.keepIn K (.ref f_law_twins) = true)
    (a_law_heap : PySem.W.nsIn K mainGlobals "_law_heap" = some (some (.ref f_law_heap))) (l_law_heap : K.lookup f_law_heap = some ⟨oc_law_heap, od_law_heap, .func (PySem.W.fnOf "_law_heap" "_law_heap" (defArgs s_law_heap) (defBody s_law_heap) (defScope s_law_heap) .none kV_law_heap dc_law_heap pm_law_heap an_law_heap cd_law_heap ct_law_heap), sl_law_heap⟩) (c_law_heap : PySem.W.codeIn K cd_law_heap "_law_heap" = true) (k_law_heap : PySem.W.keepIn K (.ref f_law_heap) = true)
    (a_law_next : PySem.W.nsIn K mainGlobals "_law_next" = some (some (.ref f_law_next))) (l_law_next : K.lookup f_law_next = some ⟨oc_law_next, od_law_next, .func (PySem.W.fnOf "_law_next" "_law_next" (defArgs s_law_next) (defBody s_law_next) (defScope s_law_next) .none kV_law_next dc_law_next pm_law_next an_law_next cd_law_next ct_law_next), sl_law_next⟩) (c_law_next : PySem.W.codeIn K cd_law_next "_law_next" = true) (k_law_next : PySem.W.keepIn K (.ref f_law_next) = true)
    (a_law_come : PySem.W.nsIn K mainGlobals "_law_come" = some (some (.ref f_law_come))) (l_law_come : K.lookup f_law_come = some ⟨oc_law_come, od_law_come, .func (PySem.W.fnOf "_law_come" "_law_come" (defArgs s_law_come) (defBody s_law_come) (defScope s_law_come) .none kV_law_come dc_law_come pm_law_come an_law_come cd_law_come ct_law_come), sl_law_come⟩) (c_law_come : PySem.W.codeIn K cd_law_come "_law_come" = true) (k_law_come : PySem.W.keepIn K (.ref f_law_come) = true)
    (a_law_is_standing : PySem.W.nsIn K mainGlobals "_law_is_standing" = some (some (.ref f_law_is_standing))) (l_law_is_standing : K.lookup f_law_is_standing = some ⟨oc_law_is_standing, od_law_is_standing, .func (PySem.W.fnOf "_law_is_standing" "_law_is_standing" (defArgs s_law_is_standing) (defBody s_law_is_standing) (defScope s_law_is_standing) .none kV_law_is_standing dc_law_is_standing pm_law_is_standing an_law_is_standing cd_law_is_standing ct_law_is_standing), sl_law_is_standing⟩) (c_law_is_standing : PySem.W.codeIn K cd_law_is_standing "_law_is_standing" = true) (k_law_is_standing : PySem.W.keepIn K (.ref f_law_is_standing) = true)
    (a_law_asked : PySem.W.nsIn K mainGlobals "_law_asked" = some (some (.ref f_law_asked))) (l_law_asked : K.lookup f_law_asked = some ⟨oc_law_asked, od_law_asked, .func (PySem.W.fnOf "_law_asked" "_law_asked" (defArgs s_law_asked) (defBody s_law_asked) (defScope s_law_asked) .none kV_law_asked dc_law_asked pm_law_asked an_law_asked cd_law_asked ct_law_asked), sl_law_asked⟩) (c_law_asked : PySem.W.codeIn K cd_law_asked "_law_asked" = true) (k_law_asked : PySem.W.keepIn K (.ref f_law_asked) = true)
    (a_law : PySem.W.nsIn K mainGlobals "law" = some (some (.ref f_law))) (l_law : K.lookup f_law = some ⟨oc_law, od_law, .func (PySem.W.fnOf "law" "law" (defArgs s_law) (defBody s_law) (defScope s_law) .none kV_law dc_law pm_law an_law cd_law ct_law), sl_law⟩) (c_law : PySem.W.codeIn K cd_law "law" = true) (k_law : PySem.W.keepIn K (.ref f_law) = true)
    (n_1 : PySem.W.nsIn K mainGlobals "LETTERS" = some (some (.str lettersS t1))) (n_2 : PySem.W.nsIn K mainGlobals "MOST_SIGNS" = some (some (.int 10 t2))) (n_3 : PySem.W.nsIn K mainGlobals "MOST_SHREDS" = some (some (.int 8 t3)))
    {e_0 e_1 e_2 e_3 e_4 e_t : Addr}
    (q_0 : PySem.W.nsIn K mainGlobals "NoHeap" = some (some (.ref e_0))) (q_1 : PySem.W.nsIn K mainGlobals "NoStanding" = some (some (.ref e_1))) (q_2 : PySem.W.nsIn K mainGlobals "NoLaying" = some (some (.ref e_2))) (q_3 : PySem.W.nsIn K mainGlobals "NoLength" = some (some (.ref e_3))) (q_4 : PySem.W.nsIn K mainGlobals "Full" = some (some (.ref e_4))) (q_t : PySem.W.nsIn K mainGlobals "TornError" = some (some (.ref e_t)))
    (x_0 : L2.ExcC K e_0) (i_0 : PySem.W.excIn K e_0 [.type "ValueError", .type "Exception", .type "BaseException", .type "object"] "ValueError.__new__" = true) (p_0 : PySem.W.keepIn K (.ref e_0) = true) (d_0 : PySem.W.typeIn K (.ref e_0) = some (.type "type"))
    (g_00 : PySem.W.subIn K (.ref e_0) (.ref e_0) = some true) (g_01 : PySem.W.subIn K (.ref e_0) (.ref e_1) = some false) (g_02 : PySem.W.subIn K (.ref e_0) (.ref e_2) = some false) (g_03 : PySem.W.subIn K (.ref e_0) (.ref e_3) = some false) (g_04 : PySem.W.subIn K (.ref e_0) (.ref e_4) = some false)
    (g_0t : PySem.W.subIn K (.ref e_0) (.ref e_t) = some true) (g_0v : PySem.W.subIn K (.ref e_0) (.type "ValueError") = some true)
    (x_1 : L2.ExcC K e_1) (i_1 : PySem.W.excIn K e_1 [.type "ValueError", .type "Exception", .type "BaseException", .type "object"] "ValueError.__new__" = true) (p_1 : PySem.W.keepIn K (.ref e_1) = true) (d_1 : PySem.W.typeIn K (.ref e_1) = some (.type "type"))
    (g_10 : PySem.W.subIn K (.ref e_1) (.ref e_0) = some false) (g_11 : PySem.W.subIn K (.ref e_1) (.ref e_1) = some true) (g_12 : PySem.W.subIn K (.ref e_1) (.ref e_2) = some false) (g_13 : PySem.W.subIn K (.ref e_1) (.ref e_3) = some false) (g_14 : PySem.W.subIn K (.ref e_1) (.ref e_4) = some false)
    (g_1t : PySem.W.subIn K (.ref e_1) (.ref e_t) = some true) (g_1v : PySem.W.subIn K (.ref e_1) (.type "ValueError") = some true)
    (x_2 : L2.ExcC K e_2) (i_2 : PySem.W.excIn K e_2 [.type "ValueError", .type "Exception", .type "BaseException", .type "object"] "ValueError.__new__" = true) (p_2 : PySem.W.keepIn K (.ref e_2) = true) (d_2 : PySem.W.typeIn K (.ref e_2) = some (.type "type"))
    (g_20 : PySem.W.subIn K (.ref e_2) (.ref e_0) = some false) (g_21 : PySem.W.subIn K (.ref e_2) (.ref e_1) = some false) (g_22 : PySem.W.subIn K (.ref e_2) (.ref e_2) = some true) (g_23 : PySem.W.subIn K (.ref e_2) (.ref e_3) = some false) (g_24 : PySem.W.subIn K (.ref e_2) (.ref e_4) = some false)
    (g_2t : PySem.W.subIn K (.ref e_2) (.ref e_t) = some true) (g_2v : PySem.W.subIn K (.ref e_2) (.type "ValueError") = some true)
    (x_3 : L2.ExcC K e_3) (i_3 : PySem.W.excIn K e_3 [.type "ValueError", .type "Exception", .type "BaseException", .type "object"] "ValueError.__new__" = true) (p_3 : PySem.W.keepIn K (.ref e_3) = true) (d_3 : PySem.W.typeIn K (.ref e_3) = some (.type "type"))
    (g_30 : PySem.W.subIn K (.ref e_3) (.ref e_0) = some false) (g_31 : PySem.W.subIn K (.ref e_3) (.ref e_1) = some false) (g_32 : PySem.W.subIn K (.ref e_3) (.ref e_2) = some false) (g_33 : PySem.W.subIn K (.ref e_3) (.ref e_3) = some true) (g_34 : PySem.W.subIn K (.ref e_3) (.ref e_4) = some false)
    (g_3t : PySem.W.subIn K (.ref e_3) (.ref e_t) = some true) (g_3v : PySem.W.subIn K (.ref e_3) (.type "ValueError") = some true)
    (x_4 : L2.ExcC K e_4) (i_4 : PySem.W.excIn K e_4 [.type "ValueError", .type "Exception", .type "BaseException", .type "object"] "ValueError.__new__" = true) (p_4 : PySem.W.keepIn K (.ref e_4) = true) (d_4 : PySem.W.typeIn K (.ref e_4) = some (.type "type"))
    (g_40 : PySem.W.subIn K (.ref e_4) (.ref e_0) = some false) (g_41 : PySem.W.subIn K (.ref e_4) (.ref e_1) = some false) (g_42 : PySem.W.subIn K (.ref e_4) (.ref e_2) = some false) (g_43 : PySem.W.subIn K (.ref e_4) (.ref e_3) = some false) (g_44 : PySem.W.subIn K (.ref e_4) (.ref e_4) = some true)
    (g_4t : PySem.W.subIn K (.ref e_4) (.ref e_t) = some true) (g_4v : PySem.W.subIn K (.ref e_4) (.type "ValueError") = some true)
    (h_t : PySem.W.hasDictIn K e_t = true) (d_t : PySem.W.typeIn K (.ref e_t) = some (.type "type")) (s_t : PySem.W.subIn K (.ref e_t) (.type "BaseException") = some true) (q_v : PySem.W.nsIn K mainGlobals "ValueError" = some none)
    (z_len : PySem.W.nsIn K mainGlobals "len" = some none) (z_all : PySem.W.nsIn K mainGlobals "all" = some none) (z_any : PySem.W.nsIn K mainGlobals "any" = some none) (z_sorted : PySem.W.nsIn K mainGlobals "sorted" = some none) (z_list : PySem.W.nsIn K mainGlobals "list" = some none) (z_tuple : PySem.W.nsIn K mainGlobals "tuple" = some none) (z_set : PySem.W.nsIn K mainGlobals "set" = some none) (z_range : PySem.W.nsIn K mainGlobals "range" = some none) (z_enumerate : PySem.W.nsIn K mainGlobals "enumerate" = some none) (z_zip : PySem.W.nsIn K mainGlobals "zip" = some none) (z_isinstance : PySem.W.nsIn K mainGlobals "isinstance" = some none) (z_int : PySem.W.nsIn K mainGlobals "int" = some none) (z_bool : PySem.W.nsIn K mainGlobals "bool" = some none) (z_str : PySem.W.nsIn K mainGlobals "str" = some none) (z_sum : PySem.W.nsIn K mainGlobals "sum" = some none) (z_min : PySem.W.nsIn K mainGlobals "min" = some none) (z_max : PySem.W.nsIn K mainGlobals "max" = some none) :
    ∃ fd : FuncData, (∀ (s : Shared) (v : Value), BindsTo s fd ⟨[v], []⟩ [("script", v)]) ∧ ∀ base : Heap, K.In base → base.Ns mainGlobals mg → FnOk l.prog w K mg base (L2N.CX l.prog w) 14 fa fd ["script"] (toSp K sp_law) := by
  have e := hfa.symm.trans (PySem.W.mg_of X G a_law)
  cases e
  have F_is_whole := fun_mk (st := s_is_whole) l_is_whole c_is_whole k_is_whole
  have m_is_whole := PySem.W.mg_of X G a_is_whole
  have b_is_whole := F_is_whole.binds (ps := ["thing", "low", "high"]) fun _ _ _ _ _ _ us hl => match us, hl with | [_, _, _], _ => rfl
  have F_are_signs := fun_mk (st := s_are_signs) l_are_signs c_are_signs k_are_signs
  have m_are_signs := PySem.W.mg_of X G a_are_signs
  have b_are_signs := F_are_signs.binds (ps := ["thing", "least"]) fun _ _ _ _ _ _ us hl => match us, hl with | [_, _], _ => rfl
  have F_are_shreds := fun_mk (st := s_are_shreds) l_are_shreds c_are_shreds k_are_shreds
  have m_are_shreds := PySem.W.mg_of X G a_are_shreds
  have b_are_shreds := F_are_shreds.binds (ps := ["thing", "least"]) fun _ _ _ _ _ _ us hl => match us, hl with | [_, _], _ => rfl
  have F_is_heap := fun_mk (st := s_is_heap) l_is_heap c_is_heap k_is_heap
  have m_is_heap := PySem.W.mg_of X G a_is_heap
  have b_is_heap := F_is_heap.binds (ps := ["thing"]) fun _ _ _ _ _ _ us hl => match us, hl with | [_], _ => rfl
  have F_need_heap := fun_mk (st := s_need_heap) l_need_heap c_need_heap k_need_heap
  have m_need_heap := PySem.W.mg_of X G a_need_heap
  have b_need_heap := F_need_heap.binds (ps := ["heap"]) fun _ _ _ _ _ _ us hl => match us, hl with | [_], _ => rfl
  have F_are_places := fun_mk (st := s_are_places) l_are_places c_are_places k_are_places
  have m_are_places := PySem.W.mg_of X G a_are_places
  have b_are_places := F_are_places.binds (ps := ["heap", "thing"]) fun _ _ _ _ _ _ us hl => match us, hl with | [_, _], _ => rfl
  have F_all_beginnings := fun_mk (st := s_all_beginnings) l_all_beginnings c_all_beginnings k_all_beginnings
  have m_all_beginnings := PySem.W.mg_of X G a_all_beginnings
  have b_all_beginnings := F_all_beginnings.binds (ps := ["heap"]) fun _ _ _ _ _ _ us hl => match us, hl with | [_], _ => rfl
  have F_left_over := fun_mk (st := s_left_over) l_left_over c_left_over k_left_over
  have m_left_over := PySem.W.mg_of X G a_left_over
  have b_left_over := F_left_over.binds (ps := ["rest", "shred"]) fun _ _ _ _ _ _ us hl => match us, hl with | [_, _], _ => rfl
  have F_next_to := fun_mk (st := s_next_to) l_next_to c_next_to k_next_to
  have m_next_to := PySem.W.mg_of X G a_next_to
  have b_next_to := F_next_to.binds (ps := ["heap", "standing"]) fun _ _ _ _ _ _ us hl => match us, hl with | [_, _], _ => rfl
  have F_is_standing := fun_mk (st := s_is_standing) l_is_standing c_is_standing k_is_standing
  have m_is_standing := PySem.W.mg_of X G a_is_standing
  have b_is_standing := F_is_standing.binds (ps := ["heap", "thing"]) fun _ _ _ _ _ _ us hl => match us, hl with | [_, _], _ => rfl
  have F_beginnings := fun_mk (st := s_beginnings) l_beginnings c_beginnings k_beginnings
  have m_beginnings := PySem.W.mg_of X G a_beginnings
  have b_beginnings := F_beginnings.binds (ps := ["heap"]) fun _ _ _ _ _ _ us hl => match us, hl with | [_], _ => rfl
  have F_leads := fun_mk (st := s_leads) l_leads c_leads k_leads
  have m_leads := PySem.W.mg_of X G a_leads
  have b_leads := F_leads.binds (ps := ["heap", "standing"]) fun _ _ _ _ _ _ us hl => match us, hl with | [_, _], _ => rfl
  have F_law_well := fun_mk (st := s_law_well) l_law_well c_law_well k_law_well
  have m_law_well := PySem.W.mg_of X G a_law_well
  have b_law_well := F_law_well.binds (ps := ["script", "k"]) fun _ _ _ _ _ _ us hl => match us, hl with | [_, _], _ => rfl
  have F_law_take := fun_mk (st := s_law_take) l_law_take c_law_take k_law_take
  have m_law_take := PySem.W.mg_of X G a_law_take
  have b_law_take := F_law_take.binds (ps := ["well", "many"]) fun _ _ _ _ _ _ us hl => match us, hl with | [_, _], _ => rfl
  have F_law_is_int := fun_mk (st := s_law_is_int) l_law_is_int c_law_is_int k_law_is_int
  have m_law_is_int := PySem.W.mg_of X G a_law_is_int
  have b_law_is_int := F_law_is_int.binds (ps := ["thing", "low", "high"]) fun _ _ _ _ _ _ us hl => match us, hl with | [_, _, _], _ => rfl
  have F_law_thing := fun_mk (st := s_law_thing) l_law_thing c_law_thing k_law_thing
  have m_law_thing := PySem.W.mg_of X G a_law_thing
  have b_law_thing := F_law_thing.binds (ps := ["well", "deep"]) fun _ _ _ _ _ _ us hl => match us, hl with | [_, _], _ => rfl
  have F_law_otherwise := fun_mk (st := s_law_otherwise) l_law_otherwise c_law_otherwise k_law_otherwise
  have m_law_otherwise := PySem.W.mg_of X G a_law_otherwise
  have b_law_otherwise := F_law_otherwise.binds (ps := ["well", "thing", "deep"]) fun _ _ _ _ _ _ us hl => match us, hl with | [_, _, _], _ => rfl
  have F_law_kinds := fun_mk (st := s_law_kinds) l_law_kinds c_law_kinds k_law_kinds
  have m_law_kinds := PySem.W.mg_of X G a_law_kinds
  have b_law_kinds := F_law_kinds.binds (ps := ["e"]) fun _ _ _ _ _ _ us hl => match us, hl with | [_], _ => rfl
  have F_law_refusal := fun_mk (st := s_law_refusal) l_law_refusal c_law_refusal k_law_refusal
  have m_law_refusal := PySem.W.mg_of X G a_law_refusal
  have b_law_refusal := F_law_refusal.binds (ps := ["e"]) fun _ _ _ _ _ _ us hl => match us, hl with | [_], _ => rfl
  have F_law_signs := fun_mk (st := s_law_signs) l_law_signs c_law_signs k_law_signs
  have m_law_signs := PySem.W.mg_of X G a_law_signs
  have b_law_signs := F_law_signs.binds (ps := ["well", "many", "kinds"]) fun _ _ _ _ _ _ us hl => match us, hl with | [_, _, _], _ => rfl
  have F_law_cut := fun_mk (st := s_law_cut) l_law_cut c_law_cut k_law_cut
  have m_law_cut := PySem.W.mg_of X G a_law_cut
  have b_law_cut := F_law_cut.binds (ps := ["text", "spots"]) fun _ _ _ _ _ _ us hl => match us, hl with | [_, _], _ => rfl
  have F_law_twins := fun_mk (st := s_law_twins) l_law_twins c_law_twins k_law_twins
  have m_law_twins := PySem.W.mg_of X G a_law_twins
  have b_law_twins := F_law_twins.binds (ps := ["well", "top"]) fun _ _ _ _ _ _ us hl => match us, hl with | [_, _], _ => rfl
  have F_law_heap := fun_mk (st := s_law_heap) l_law_heap c_law_heap k_law_heap
  have m_law_heap := PySem.W.mg_of X G a_law_heap
  have b_law_heap := F_law_heap.binds (ps := ["well", "top"]) fun _ _ _ _ _ _ us hl => match us, hl with | [_, _], _ => rfl
  have F_law_next := fun_mk (st := s_law_next) l_law_next c_law_next k_law_next
  have m_law_next := PySem.W.mg_of X G a_law_next
  have b_law_next := F_law_next.binds (ps := ["heap", "standing"]) fun _ _ _ _ _ _ us hl => match us, hl with | [_, _], _ => rfl
  have F_law_come := fun_mk (st := s_law_come) l_law_come c_law_come k_law_come
  have m_law_come := PySem.W.mg_of X G a_law_come
  have b_law_come := F_law_come.binds (ps := ["heap"]) fun _ _ _ _ _ _ us hl => match us, hl with | [_], _ => rfl
  have F_law_is_standing := fun_mk (st := s_law_is_standing) l_law_is_standing c_law_is_standing k_law_is_standing
  have m_law_is_standing := PySem.W.mg_of X G a_law_is_standing
  have b_law_is_standing := F_law_is_standing.binds (ps := ["heap", "thing"]) fun _ _ _ _ _ _ us hl => match us, hl with | [_, _], _ => rfl
  have F_law_asked := fun_mk (st := s_law_asked) l_law_asked c_law_asked k_law_asked
  have m_law_asked := PySem.W.mg_of X G a_law_asked
  have b_law_asked := F_law_asked.binds (ps := ["heap", "thing"]) fun _ _ _ _ _ _ us hl => match us, hl with | [_, _], _ => rfl
  have F_law := fun_mk (st := s_law) l_law c_law k_law
  have m_law := PySem.W.mg_of X G a_law
  have b_law := F_law.binds (ps := ["script"]) fun _ _ _ _ _ _ us hl => match us, hl with | [_], _ => rfl
  refine ⟨PySem.W.fnOf "law" "law" (defArgs s_law) (defBody s_law) (defScope s_law) .none kV_law dc_law pm_law an_law cd_law ct_law, fun s v => .of_eq rfl, fun base _ _ => ?_⟩
  have B : Bare mg := ⟨PySem.W.mg_none_of X G z_len, PySem.W.mg_none_of X G z_all, PySem.W.mg_none_of X G z_any, PySem.W.mg_none_of X G z_sorted, PySem.W.mg_none_of X G z_list, PySem.W.mg_none_of X G z_tuple, PySem.W.mg_none_of X G z_set, PySem.W.mg_none_of X G z_range, PySem.W.mg_none_of X G z_enumerate, PySem.W.mg_none_of X G z_zip, PySem.W.mg_none_of X G z_isinstance, PySem.W.mg_none_of X G z_int, PySem.W.mg_none_of X G z_bool, PySem.W.mg_none_of X G z_str, PySem.W.mg_none_of X G z_sum, PySem.W.mg_none_of X G z_min, PySem.W.mg_none_of X G z_max⟩
  have C : Consts mg := ⟨⟨t1, PySem.W.mg_of X G n_1⟩, ⟨t2, PySem.W.mg_of X G n_2⟩, ⟨t3, PySem.W.mg_of X G n_3⟩⟩
  have mc : ∀ c, c < 5 → c = 0 ∨ c = 1 ∨ c = 2 ∨ c = 3 ∨ c = 4 := fun c h => by omega
  have Er : Errs K mg (fun c => [e_0, e_1, e_2, e_3, e_4].getD c e_4) e_t := by
    refine ⟨PySem.W.mg_of X G q_0, PySem.W.mg_of X G q_1, PySem.W.mg_of X G q_2, PySem.W.mg_of X G q_3, PySem.W.mg_of X G q_4, PySem.W.mg_of X G q_t, PySem.W.mg_none_of X G q_v, fun c hc => ?_, fun c hc i hi => ?_, fun c hc => ?_, fun c hc => ?_⟩
    · rcases mc c hc with rfl | rfl | rfl | rfl | rfl
      · exact x_0
      · exact x_1
      · exact x_2
      · exact x_3
      · exact x_4
    · rcases mc c hc with rfl | rfl | rfl | rfl | rfl <;> rcases mc i hi with rfl | rfl | rfl | rfl | rfl
      · exact kit_ref x_0.hd d_0 g_00 fun e => rfl
      · exact kit_ref x_1.hd d_1 g_01 fun e => (by have e2 : Value.ref e_0 = Value.ref e_1 := e; rw [e2, g_11] at g_01; cases g_01)
      · exact kit_ref x_2.hd d_2 g_02 fun e => (by have e2 : Value.ref e_0 = Value.ref e_2 := e; rw [e2, g_22] at g_02; cases g_02)
      · exact kit_ref x_3.hd d_3 g_03 fun e => (by have e2 : Value.ref e_0 = Value.ref e_3 := e; rw [e2, g_33] at g_03; cases g_03)
      · exact kit_ref x_4.hd d_4 g_04 fun e => (by have e2 : Value.ref e_0 = Value.ref e_4 := e; rw [e2, g_44] at g_04; cases g_04)
      · exact kit_ref x_0.hd d_0 g_10 fun e => (by have e2 : Value.ref e_1 = Value.ref e_0 := e; rw [e2, g_00] at g_10; cases g_10)
      · exact kit_ref x_1.hd d_1 g_11 fun e => rfl
      · exact kit_ref x_2.hd d_2 g_12 fun e => (by have e2 : Value.ref e_1 = Value.ref e_2 := e; rw [e2, g_22] at g_12; cases g_12)
      · exact kit_ref x_3.hd d_3 g_13 fun e => (by have e2 : Value.ref e_1 = Value.ref e_3 := e; rw [e2, g_33] at g_13; cases g_13)
      · exact kit_ref x_4.hd d_4 g_14 fun e => (by have e2 : Value.ref e_1 = Value.ref e_4 := e; rw [e2, g_44] at g_14; cases g_14)
      · exact kit_ref x_0.hd d_0 g_20 fun e => (by have e2 : Value.ref e_2 = Value.ref e_0 := e; rw [e2, g_00] at g_20; cases g_20)
      · exact kit_ref x_1.hd d_1 g_21 fun e => (by have e2 : Value.ref e_2 = Value.ref e_1 := e; rw [e2, g_11] at g_21; cases g_21)
      · exact kit_ref x_2.hd d_2 g_22 fun e => rfl
      · exact kit_ref x_3.hd d_3 g_23 fun e => (by have e2 : Value.ref e_2 = Value.ref e_3 := e; rw [e2, g_33] at g_23; cases g_23)
      · exact kit_ref x_4.hd d_4 g_24 fun e => (by have e2 : Value.ref e_2 = Value.ref e_4 := e; rw [e2, g_44] at g_24; cases g_24)
      · exact kit_ref x_0.hd d_0 g_30 fun e => (by have e2 : Value.ref e_3 = Value.ref e_0 := e; rw [e2, g_00] at g_30; cases g_30)
      · exact kit_ref x_1.hd d_1 g_31 fun e => (by have e2 : Value.ref e_3 = Value.ref e_1 := e; rw [e2, g_11] at g_31; cases g_31)
      · exact kit_ref x_2.hd d_2 g_32 fun e => (by have e2 : Value.ref e_3 = Value.ref e_2 := e; rw [e2, g_22] at g_32; cases g_32)
      · exact kit_ref x_3.hd d_3 g_33 fun e => rfl
      · exact kit_ref x_4.hd d_4 g_34 fun e => (by have e2 : Value.ref e_3 = Value.ref e_4 := e; rw [e2, g_44] at g_34; cases g_34)
      · exact kit_ref x_0.hd d_0 g_40 fun e => (by have e2 : Value.ref e_4 = Value.ref e_0 := e; rw [e2, g_00] at g_40; cases g_40)
      · exact kit_ref x_1.hd d_1 g_41 fun e => (by have e2 : Value.ref e_4 = Value.ref e_1 := e; rw [e2, g_11] at g_41; cases g_41)
      · exact kit_ref x_2.hd d_2 g_42 fun e => (by have e2 : Value.ref e_4 = Value.ref e_2 := e; rw [e2, g_22] at g_42; cases g_42)
      · exact kit_ref x_3.hd d_3 g_43 fun e => (by have e2 : Value.ref e_4 = Value.ref e_3 := e; rw [e2, g_33] at g_43; cases g_43)
      · exact kit_ref x_4.hd d_4 g_44 fun e => rfl
    · rcases mc c hc with rfl | rfl | rfl | rfl | rfl
      · exact kit_ref h_t d_t g_0t fun _ => rfl
      · exact kit_ref h_t d_t g_1t fun _ => rfl
      · exact kit_ref h_t d_t g_2t fun _ => rfl
      · exact kit_ref h_t d_t g_3t fun _ => rfl
      · exact kit_ref h_t d_t g_4t fun _ => rfl
    · rcases mc c hc with rfl | rfl | rfl | rfl | rfl
      · exact kit_val g_0v
      · exact kit_val g_1v
      · exact kit_val g_2v
      · exact kit_val g_3v
      · exact kit_val g_4v
  have ex : ∀ c, c < 5 → PySem.W.exmOne K (.ref ([e_0, e_1, e_2, e_3, e_4].getD c e_4)) (.ref e_t) = some true := fun c hc => by
    rcases mc c hc with rfl | rfl | rfl | rfl | rfl
    · exact PySem.W.exm_ref s_t h_t d_t g_0t
    · exact PySem.W.exm_ref s_t h_t d_t g_1t
    · exact PySem.W.exm_ref s_t h_t d_t g_2t
    · exact PySem.W.exm_ref s_t h_t d_t g_3t
    · exact PySem.W.exm_ref s_t h_t d_t g_4t
  have R_0 : ExcR K mg "NoHeap" e_0 := ⟨⟨_, _, _, _, PySem.F.excBase_ValueError, i_0⟩, PySem.W.mg_of X G q_0, p_0, x_0.hs, d_0⟩
  have R_1 : ExcR K mg "NoStanding" e_1 := ⟨⟨_, _, _, _, PySem.F.excBase_ValueError, i_1⟩, PySem.W.mg_of X G q_1, p_1, x_1.hs, d_1⟩
  have R_2 : ExcR K mg "NoLaying" e_2 := ⟨⟨_, _, _, _, PySem.F.excBase_ValueError, i_2⟩, PySem.W.mg_of X G q_2, p_2, x_2.hs, d_2⟩
  have R_3 : ExcR K mg "NoLength" e_3 := ⟨⟨_, _, _, _, PySem.F.excBase_ValueError, i_3⟩, PySem.W.mg_of X G q_3, p_3, x_3.hs, d_3⟩
  have R_4 : ExcR K mg "Full" e_4 := ⟨⟨_, _, _, _, PySem.F.excBase_ValueError, i_4⟩, PySem.W.mg_of X G q_4, p_4, x_4.hs, d_4⟩
  have Rs : ExcR K mg "NoStanding" ((fun c => [e_0, e_1, e_2, e_3, e_4].getD c e_4) 1) := R_1
  have c_are_signs := ok_are_signs (P := l.prog) (w := w) (base := base) B C F_are_signs m_are_signs b_are_signs
  have c_are_shreds := ok_are_shreds B C c_are_signs F_are_shreds m_are_shreds b_are_shreds
  have c_is_heap := ok_is_heap c_are_shreds F_is_heap m_is_heap b_is_heap
  have c_need_heap := ok_need_heap c_is_heap F_need_heap m_need_heap b_need_heap
  have c_whole := ok_is_whole (P := l.prog) (w := w) (base := base) B F_is_whole m_is_whole b_is_whole
  have c_places := ok_are_places B c_whole F_are_places m_are_places b_are_places
  have c_all := ok_all_beginnings (P := l.prog) (w := w) (base := base) B F_all_beginnings m_all_beginnings b_all_beginnings
  have c_left := ok_left_over (P := l.prog) (w := w) (base := base) B F_left_over m_left_over b_left_over
  have c_next := ok_next_to B c_left F_next_to m_next_to b_next_to
  have c_standing := ok_is_standing B c_places c_are_signs F_is_standing m_is_standing b_is_standing
  have c_begin := ok_beginnings c_need_heap c_all F_beginnings m_beginnings b_beginnings
  have c_leads := ok_leads (ea := fun c => [e_0, e_1, e_2, e_3, e_4].getD c e_4) B Rs c_need_heap c_standing c_next F_leads m_leads b_leads
  have c_kinds := ok_law_kinds (P := l.prog) (w := w) (base := base) B Er F_law_kinds m_law_kinds b_law_kinds
  have c_refusal := ok_law_refusal B c_kinds F_law_refusal m_law_refusal b_law_refusal
  have c_asked := ok_law_asked3 Er ex c_leads c_refusal F_law_asked m_law_asked b_law_asked
  have c_well := ok_law_well (P := l.prog) (w := w) (base := base) B F_law_well m_law_well b_law_well
  have c_take := ok_law_take (P := l.prog) (w := w) (base := base) F_law_take m_law_take b_law_take
  have c_signs := ok_law_signs B c_take F_law_signs m_law_signs b_law_signs
  have c_cut := ok_law_cut (P := l.prog) (w := w) (base := base) B F_law_cut m_law_cut b_law_cut
  have c_twins := ok_law_twins B c_take c_signs c_cut F_law_twins m_law_twins b_law_twins
  have c_heap := ok_law_heap B c_take c_signs c_twins F_law_heap m_law_heap b_law_heap
  have c_thing := ok_law_thing B c_take F_law_thing m_law_thing b_law_thing
  have c_oth := ok_law_otherwise B c_take c_thing F_law_otherwise m_law_otherwise b_law_otherwise
  have c_int := ok_law_is_int (P := l.prog) (w := w) (base := base) B F_law_is_int m_law_is_int b_law_is_int
  have c_lnext := ok_law_next (P := l.prog) (w := w) (base := base) B F_law_next m_law_next b_law_next
  have c_come := ok_law_come B c_lnext F_law_come m_law_come b_law_come
  have c_lst := ok_law_is_standing B c_int F_law_is_standing m_law_is_standing b_law_is_standing
  exact ok_law B c_well c_take c_signs c_heap c_begin c_come c_lnext c_lst (c_thing 3) (c_oth 1 4 (by decide) (by decide)) c_asked c_leads F_law
theorem law_start {K : PySem.W.Frag} {H : Hp} {a : Addr} {ns : List Int} (hO : Only H) (hS : SqL K H a (ns.map V.int)) (hl : ns.length ≤ 63) : toSp K sp_law [.ref a] H (fun v _ => v = .bl true) fun _ _ _ => False := by
  have sc : ScrAt K H a ns := by
    rcases hS with (h | ⟨o, h⟩) | h
    · rcases hO a with z | ⟨o, xs, z⟩
      · rw [z] at h; cases h
      · rw [z] at h; cases h
    · exact .inl ⟨o, h⟩
    · exact .inr (.inr h)
  refine ⟨[.va (scriptD ns)], H, fun _ d _ => d = .bool true, W0, envOk_va (ds := [scriptD ns]) (Sub.refl H) (.cons ⟨.inr (.inr ⟨a, ns, rfl, rfl, sc⟩)⟩ .nil), ⟨ns, rfl, hl, rfl⟩, fun v o d ss' I' H' _ _ _ r e => ?_, .inl fun _ z => z⟩
  subst e
  exact Rs.bool r
end Tt
open PySem PySem.W PyProof.Rows
set_option maxHeartbeats 0 in
theorem PySem.Challenge.cw_twintorn_k03_standings_by_hand_holds : PySem.Challenge.rw_twintorn_k03_standings_by_hand.Holds := by
  w_on; o_law; k_head; (case hw => w_witness2)
  k_fill
  refine L2.walk_of (l := PySem.Challenge.rw_twintorn_k03_standings_by_hand) (n := 63) (k := 14) (x := "script") (CX := fun w => L2N.CX PySem.Challenge.rw_twintorn_k03_standings_by_hand.prog w) (sp := fun w => Tt.toSp _ Tt.sp_law) rfl (by decide) rfl ⟨rfl, by decide, by decide⟩ (fun w h Y => PySem.W.kIn_of Y) ?F (fun _ _ a ns hl hO hS => Tt.law_start hO hS hl) (fun _ _ _ _ _ h => by obtain ⟨_, _, _, _, _, _, _, _, _, _, _, _, z⟩ := h; exact z)
  case F =>
    intro w mg fa h KX G hmg
    refine' Tt.all_mk KX G hmg ?a_is_whole ?l_is_whole ?c_is_whole ?k_is_whole ?a_are_signs ?l_are_signs ?c_are_signs ?k_are_signs ?a_are_shreds ?l_are_shreds ?c_are_shreds ?k_are_shreds ?a_is_heap ?l_is_heap ?c_is_heap ?k_is_heap ?a_need_heap ?l_need_heap ?c_need_heap ?k_need_heap ?a_are_places ?l_are_places ?c_are_places ?k_are_places ?a_all_beginnings ?l_all_beginnings ?c_all_beginnings ?k_all_beginnings ?a_left_over ?l_left_over ?c_left_over ?k_left_over ?a_next_to ?l_next_to ?c_next_to ?k_next_to ?a_is_standing ?l_is_standing ?c_is_standing ?k_is_standing ?a_beginnings ?l_beginnings ?c_beginnings ?k_beginnings ?a_leads ?l_leads ?c_leads ?k_leads ?a_law_well ?l_law_well ?c_law_well ?k_law_well ?a_law_take ?l_law_take ?c_law_take ?k_law_take ?a_law_is_int ?l_law_is_int ?c_law_is_int ?k_law_is_int ?a_law_thing ?l_law_thing ?c_law_thing ?k_law_thing ?a_law_otherwise ?l_law_otherwise ?c_law_otherwise ?k_law_otherwise ?a_law_kinds ?l_law_kinds ?c_law_kinds ?k_law_kinds ?a_law_refusal ?l_law_refusal ?c_law_refusal ?k_law_refusal ?a_law_signs ?l_law_signs ?c_law_signs ?k_law_signs ?a_law_cut ?l_law_cut ?c_law_cut ?k_law_cut ?a_law_twins ?l_law_twins ?c_law_twins ?k_law_twins ?a_law_heap ?l_law_heap ?c_law_heap ?k_law_heap ?a_law_next ?l_law_next ?c_law_next ?k_law_next ?a_law_come ?l_law_come ?c_law_come ?k_law_come ?a_law_is_standing ?l_law_is_standing ?c_law_is_standing ?k_law_is_standing ?a_law_asked ?l_law_asked ?c_law_asked ?k_law_asked ?a_law ?l_law ?c_law ?k_law ?n_1 ?n_2 ?n_3 ?q_0 ?q_1 ?q_2 ?q_3 ?q_4 ?q_t ?x_0 ?i_0 ?p_0 ?d_0 ?g_00 ?g_01 ?g_02 ?g_03 ?g_04 ?g_0t ?g_0v ?x_1 ?i_1 ?p_1 ?d_1 ?g_10 ?g_11 ?g_12 ?g_13 ?g_14 ?g_1t ?g_1v ?x_2 ?i_2 ?p_2 ?d_2 ?g_20 ?g_21 ?g_22 ?g_23 ?g_24 ?g_2t ?g_2v ?x_3 ?i_3 ?p_3 ?d_3 ?g_30 ?g_31 ?g_32 ?g_33 ?g_34 ?g_3t ?g_3v ?x_4 ?i_4 ?p_4 ?d_4 ?g_40 ?g_41 ?g_42 ?g_43 ?g_44 ?g_4t ?g_4v ?h_t ?d_t ?s_t ?q_v ?z_len ?z_all ?z_any ?z_sorted ?z_list ?z_tuple ?z_set ?z_range ?z_enumerate ?z_zip ?z_isinstance ?z_int ?z_bool ?z_str ?z_sum ?z_min ?z_max
    (case a_is_whole => k_is); (case l_is_whole => k_is); (case c_is_whole => k_is); (case k_is_whole => k_is); (case a_are_signs => k_is); (case l_are_signs => k_is); (case c_are_signs => k_is); (case k_are_signs => k_is); (case a_are_shreds => k_is); (case l_are_shreds => k_is); (case c_are_shreds => k_is); (case k_are_shreds => k_is); (case a_is_heap => k_is); (case l_is_heap => k_is); (case c_is_heap => k_is); (case k_is_heap => k_is); (case a_need_heap => k_is); (case l_need_heap => k_is); (case c_need_heap => k_is); (case k_need_heap => k_is); (case a_are_places => k_is); (case l_are_places => k_is); (case c_are_places => k_is); (case k_are_places => k_is); (case a_all_beginnings => k_is); (case l_all_beginnings => k_is); (case c_all_beginnings => k_is); (case k_all_beginnings => k_is); (case a_left_over => k_is); (case l_left_over => k_is); (case c_left_over => k_is); (case k_left_over => k_is); (case a_next_to => k_is); (case l_next_to => k_is); (case c_next_to => k_is); (case k_next_to => k_is); (case a_is_standing => k_is); (case l_is_standing => k_is); (case c_is_standing => k_is); (case k_is_standing => k_is); (case a_beginnings => k_is); (case l_beginnings => k_is); (case c_beginnings => k_is); (case k_beginnings => k_is); (case a_leads => k_is); (case l_leads => k_is); (case c_leads => k_is); (case k_leads => k_is); (case a_law_well => k_is); (case l_law_well => k_is); (case c_law_well => k_is); (case k_law_well => k_is); (case a_law_take => k_is); (case l_law_take => k_is); (case c_law_take => k_is); (case k_law_take => k_is); (case a_law_is_int => k_is); (case l_law_is_int => k_is); (case c_law_is_int => k_is); (case k_law_is_int => k_is); (case a_law_thing => k_is); (case l_law_thing => k_is); (case c_law_thing => k_is); (case k_law_thing => k_is); (case a_law_otherwise => k_is); (case l_law_otherwise => k_is); (case c_law_otherwise => k_is); (case k_law_otherwise => k_is); (case a_law_kinds => k_is); (case l_law_kinds => k_is); (case c_law_kinds => k_is); (case k_law_kinds => k_is); (case a_law_refusal => k_is); (case l_law_refusal => k_is); (case c_law_refusal => k_is); (case k_law_refusal => k_is); (case a_law_signs => k_is); (case l_law_signs => k_is); (case c_law_signs => k_is); (case k_law_signs => k_is); (case a_law_cut => k_is); (case l_law_cut => k_is); (case c_law_cut => k_is); (case k_law_cut => k_is); (case a_law_twins => k_is); (case l_law_twins => k_is); (case c_law_twins => k_is); (case k_law_twins => k_is); (case a_law_heap => k_is); (case l_law_heap => k_is); (case c_law_heap => k_is); (case k_law_heap => k_is); (case a_law_next => k_is); (case l_law_next => k_is); (case c_law_next => k_is); (case k_law_next => k_is); (case a_law_come => k_is); (case l_law_come => k_is); (case c_law_come => k_is); (case k_law_come => k_is); (case a_law_is_standing => k_is); (case l_law_is_standing => k_is); (case c_law_is_standing => k_is); (case k_law_is_standing => k_is); (case a_law_asked => k_is); (case l_law_asked => k_is); (case c_law_asked => k_is); (case k_law_asked => k_is); (case a_law => k_is); (case l_law => k_is); (case c_law => k_is); (case k_law => k_is); (case n_1 => k_is); (case n_2 => k_is); (case n_3 => k_is); (case q_0 => k_is); (case q_1 => k_is); (case q_2 => k_is); (case q_3 => k_is); (case q_4 => k_is); (case q_t => k_is); (case x_0 => exact ⟨by k_is, by k_is, by k_is, by k_is, by k_is, by k_is, by k_is, by k_is⟩); (case i_0 => first | rfl | decide +kernel | (unfold PySem.W.excIn; rfl) | (with_unfolding_all rfl)); (case p_0 => k_is); (case d_0 => k_is); (case g_00 => k_is); (case g_01 => k_is); (case g_02 => k_is); (case g_03 => k_is); (case g_04 => k_is); (case g_0t => k_is); (case g_0v => k_is); (case x_1 => exact ⟨by k_is, by k_is, by k_is, by k_is, by k_is, by k_is, by k_is, by k_is⟩); (case i_1 => first | rfl | decide +kernel | (unfold PySem.W.excIn; rfl) | (with_unfolding_all rfl)); (case p_1 => k_is); (case d_1 => k_is); (case g_10 => k_is); (case g_11 => k_is); (case g_12 => k_is); (case g_13 => k_is); (case g_14 => k_is); (case g_1t => k_is); (case g_1v => k_is); (case x_2 => exact ⟨by k_is, by k_is, by k_is, by k_is, by k_is, by k_is, by k_is, by k_is⟩); (case i_2 => first | rfl | decide +kernel | (unfold PySem.W.excIn; rfl) | (with_unfolding_all rfl)); (case p_2 => k_is); (case d_2 => k_is); (case g_20 => k_is); (case g_21 => k_is); (case g_22 => k_is); (case g_23 => k_is); (case g_24 => k_is); (case g_2t => k_is); (case g_2v => k_is); (case x_3 => exact ⟨by k_is, by k_is, by k_is, by k_is, by k_is, by k_is, by k_is, by k_is⟩); (case i_3 => first | rfl | decide +kernel | (unfold PySem.W.excIn; rfl) | (with_unfolding_all rfl)); (case p_3 => k_is); (case d_3 => k_is); (case g_30 => k_is); (case g_31 => k_is); (case g_32 => k_is); (case g_33 => k_is); (case g_34 => k_is); (case g_3t => k_is); (case g_3v => k_is); (case x_4 => exact ⟨by k_is, by k_is, by k_is, by k_is, by k_is, by k_is, by k_is, by k_is⟩); (case i_4 => first | rfl | decide +kernel | (unfold PySem.W.excIn; rfl) | (with_unfolding_all rfl)); (case p_4 => k_is); (case d_4 => k_is); (case g_40 => k_is); (case g_41 => k_is); (case g_42 => k_is); (case g_43 => k_is); (case g_44 => k_is); (case g_4t => k_is); (case g_4v => k_is); (case h_t => k_is); (case d_t => k_is); (case s_t => k_is); (case q_v => k_is); (case z_len => k_is); (case z_all => k_is); (case z_any => k_is); (case z_sorted => k_is); (case z_list => k_is); (case z_tuple => k_is); (case z_set => k_is); (case z_range => k_is); (case z_enumerate => k_is); (case z_zip => k_is); (case z_isinstance => k_is); (case z_int => k_is); (case z_bool => k_is); (case z_str => k_is); (case z_sum => k_is); (case z_min => k_is); (case z_max => k_is)

