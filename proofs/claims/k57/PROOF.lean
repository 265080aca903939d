import PyProof.Rows.All
import Wide.All
import OpenK.AllK
import Wide.FinOn
import HandS.Base
import HandS.Call
import HandS.List
import HandS.Comp
import HandS.Exc
import HandS.ExcOwn
import HandS.IsInst
import HandS.TupAny
import HandS.TupMul
import HandS.Dict
import HandS.Wide
import HandS.More
import HandS.SetFor
import HandS.Strs
import HandS.Text
import KE.DatumOrd
import KE.DataMinMax
import HandS.Style
import HandS.Words
import HandS.WordsExc
import HandS.Defaults
import HandS.ExcIs
import HandS.HeadHook1
import HandS.HotCalls
import HandS.Ends
import HandS.Head0
import HandS.Head1
import HandS.Head2
import HandS.HeadEnd
import HandS.HeadHook2
import PySem.Challenge.RW_rowapart_k57_surroundings
set_option Elab.async false
set_option linter.all false
set_option maxRecDepth 100000
set_option maxHeartbeats 4000000
/-! Fx: a value semantics over the hand layer: data D, a store of mutable cells, evaluators and what they say of readings -/
namespace Fx
open PySem PySem.Spec PyProof.Rows L2

/-! ### data, the store -/
inductive D where
  | non | bl (b : Bool) | int (i : Int) | str (x : Str)
  | tup (ds : List D) | lst (ds : List D) | rol (ds : List D) | own (k : Nat) | glo (a : Addr)
  deriving Inhabited
inductive Cell where
  | lst (ds : List D)
  | dic (kvs : List (Key × D))
  deriving Inhabited
abbrev Store := List Cell
abbrev Slots := List (Option D)
abbrev Am := List Addr
abbrev Sl := L2.St

/-- a tuple as it is made here: its object is known to have no dict -/
def TupF (K : PySem.W.Frag) (F : Hp) (a : Addr) (vs : List V) : Prop :=
  (∃ o : Obj, F a = some (.frz o (.tup vs)) ∧ o.dict = none) ∨
    ∃ (o : Obj) (its : Array Value) (n : Nat), K.lookup a = some o ∧ o.cls = .type "tuple" ∧ o.dict = none ∧ o.data = .seq its n ∧ its.size ≤ sizeLine ∧ Vals vs its.toList
theorem TupF.sqt {K : PySem.W.Frag} {F : Hp} {a : Addr} {vs : List V} (h : TupF K F a vs) : SqT K F a vs := by
  rcases h with ⟨o, h, _⟩ | ⟨o, its, n, h1, h2, h3, h4, h5, h6⟩
  · exact .inl (.inr ⟨o, h⟩)
  · exact .inr ⟨o, its, n, h1, h2, h4, h5, h6⟩

mutual
inductive Rp (K : PySem.W.Frag) (F : Hp) (m : Am) : V → D → Prop
  | non : Rp K F m .non .non
  | bl (b : Bool) : Rp K F m (.bl b) (.bl b)
  | int (i : Int) : Rp K F m (.int i) (.int i)
  | str (x : Str) : Rp K F m (.str x) (.str x)
  | tup {a : Addr} {vs : List V} {ds : List D} : TupF K F a vs → Rps K F m vs ds → Rp K F m (.ref a) (.tup ds)
  | lst {a : Addr} {vs : List V} {ds : List D} : F a = some (.lst vs) → Rps K F m vs ds → Rp K F m (.ref a) (.lst ds)
  | rol {a : Addr} {vs : List V} {ds : List D} : SqL K F a vs → Rps K F m vs ds → Rp K F m (.ref a) (.rol ds)
  | own {k : Nat} {a : Addr} : m[k]? = some a → Rp K F m (.ref a) (.own k)
  | glo (a : Addr) : Rp K F m (.ref a) (.glo a)
inductive Rps (K : PySem.W.Frag) (F : Hp) (m : Am) : List V → List D → Prop
  | nil : Rps K F m [] []
  | cons {v : V} {d : D} {vs : List V} {ds : List D} : Rp K F m v d → Rps K F m vs ds → Rps K F m (v :: vs) (d :: ds)
end

structure Ext (F : Hp) (m : Am) (F' : Hp) (m' : Am) : Prop where
  f : ∀ a u, F a = some u → F' a = some u
  m : ∀ (k : Nat) a, m[k]? = some a → m'[k]? = some a
theorem Ext.refl (F : Hp) (m : Am) : Ext F m F m := ⟨fun _ _ h => h, fun _ _ h => h⟩
theorem Ext.trans {F F1 F2 : Hp} {m m1 m2 : Am} (a : Ext F m F1 m1) (b : Ext F1 m1 F2 m2) : Ext F m F2 m2 :=
  ⟨fun x u h => b.f x u (a.f x u h), fun k x h => b.m k x (a.m k x h)⟩

theorem rd_mono {F F' : Hp} (h : ∀ a u, F a = some u → F' a = some u) {a : Addr} {u : HO} (r : Rd F a u) : Rd F' a u := by
  rcases r with r | ⟨o, r⟩
  · exact .inl (h _ _ r)
  · exact .inr ⟨o, h _ _ r⟩
theorem sqt_mono {K : PySem.W.Frag} {F F' : Hp} (h : ∀ a u, F a = some u → F' a = some u) {a : Addr} {vs : List V} (r : SqT K F a vs) : SqT K F' a vs := by
  rcases r with r | r
  · exact .inl (rd_mono h r)
  · exact .inr r
theorem tupf_mono {K : PySem.W.Frag} {F F' : Hp} (h : ∀ a u, F a = some u → F' a = some u) {a : Addr} {vs : List V} (r : TupF K F a vs) : TupF K F' a vs := by
  rcases r with ⟨o, r, q⟩ | r
  · exact .inl ⟨o, h _ _ r, q⟩
  · exact .inr r
theorem sql_mono {K : PySem.W.Frag} {F F' : Hp} (h : ∀ a u, F a = some u → F' a = some u) {a : Addr} {vs : List V} (r : SqL K F a vs) : SqL K F' a vs := by
  rcases r with r | r
  · exact .inl (rd_mono h r)
  · exact .inr r

section
variable {K : PySem.W.Frag} {F F' : Hp} {m m' : Am}
mutual
theorem Rp.mono (e : Ext F m F' m') : ∀ (d : D) (v : V), Rp K F m v d → Rp K F' m' v d
  | .non, _, h => by cases h; exact .non
  | .bl b, _, h => by cases h; exact .bl b
  | .int i, _, h => by cases h; exact .int i
  | .str x, _, h => by cases h; exact .str x
  | .tup ds, _, h => by cases h with | tup h1 h2 => exact .tup (tupf_mono e.f h1) (Rps.mono e ds _ h2)
  | .lst ds, _, h => by cases h with | lst h1 h2 => exact .lst (e.f _ _ h1) (Rps.mono e ds _ h2)
  | .rol ds, _, h => by cases h with | rol h1 h2 => exact .rol (sql_mono e.f h1) (Rps.mono e ds _ h2)
  | .own k, _, h => by cases h with | own h1 => exact .own (e.m _ _ h1)
  | .glo a, _, h => by cases h; exact .glo a
theorem Rps.mono (e : Ext F m F' m') : ∀ (ds : List D) (vs : List V), Rps K F m vs ds → Rps K F' m' vs ds
  | [], _, h => by cases h; exact .nil
  | d :: ds, _, h => by cases h with | cons h1 h2 => exact .cons (Rp.mono e d _ h1) (Rps.mono e ds _ h2)
end
theorem Rp.up {v : V} {d : D} (h : Rp K F m v d) (e : Ext F m F' m') : Rp K F' m' v d := Rp.mono e d v h
theorem Rps.up {vs : List V} {ds : List D} (h : Rps K F m vs ds) (e : Ext F m F' m') : Rps K F' m' vs ds := Rps.mono e ds vs h
theorem Rps.length : ∀ {vs : List V} {ds : List D}, Rps K F m vs ds → vs.length = ds.length
  | _, _, .nil => rfl
  | _, _, .cons _ h => by rw [List.length_cons, List.length_cons, h.length]
theorem Rps.append : ∀ {vs ws : List V} {ds es : List D}, Rps K F m vs ds → Rps K F m ws es → Rps K F m (vs ++ ws) (ds ++ es)
  | _, _, _, _, .nil, h => h
  | _, _, _, _, .cons r t, h => .cons r (t.append h)
theorem Rps.get : ∀ {vs : List V} {ds : List D} {i : Nat} {v : V}, Rps K F m vs ds → vs[i]? = some v → ∃ d, ds[i]? = some d ∧ Rp K F m v d
  | _, _, _, _, .nil, h => by simp at h
  | _, _, 0, _, .cons r _, h => by simp at h; subst h; exact ⟨_, rfl, r⟩
  | _, _, i + 1, _, .cons _ t, h => by
    obtain ⟨d, h1, h2⟩ := t.get (i := i) (by simpa using h)
    exact ⟨d, by simpa using h1, h2⟩
theorem Rps.get' : ∀ {vs : List V} {ds : List D} {i : Nat} {d : D}, Rps K F m vs ds → ds[i]? = some d → ∃ v, vs[i]? = some v ∧ Rp K F m v d
  | _, _, _, _, .nil, h => by simp at h
  | _, _, 0, _, .cons r _, h => by simp at h; subst h; exact ⟨_, rfl, r⟩
  | _, _, i + 1, _, .cons _ t, h => by
    obtain ⟨d, h1, h2⟩ := t.get' (i := i) (by simpa using h)
    exact ⟨d, by simpa using h1, h2⟩
theorem Rps.take : ∀ {vs : List V} {ds : List D} (n : Nat), Rps K F m vs ds → Rps K F m (vs.take n) (ds.take n)
  | _, _, 0, _ => .nil
  | _, _, _ + 1, .nil => .nil
  | _, _, n + 1, .cons r t => .cons r (t.take n)
theorem Rps.drop : ∀ {vs : List V} {ds : List D} (n : Nat), Rps K F m vs ds → Rps K F m (vs.drop n) (ds.drop n)
  | _, _, 0, h => h
  | _, _, _ + 1, .nil => .nil
  | _, _, n + 1, .cons _ t => t.drop n
theorem Rps.set : ∀ {vs : List V} {ds : List D} {v : V} {d : D} (n : Nat), Rps K F m vs ds → Rp K F m v d → Rps K F m (vs.set n v) (ds.set n d)
  | _, _, _, _, _, .nil, _ => .nil
  | _, _, _, _, 0, .cons _ t, r => .cons r t
  | _, _, _, _, n + 1, .cons q t, r => .cons q (t.set n r)
theorem Rps.reverse : ∀ {vs : List V} {ds : List D}, Rps K F m vs ds → Rps K F m vs.reverse ds.reverse
  | _, _, .nil => .nil
  | _, _, .cons r t => by
    rw [List.reverse_cons, List.reverse_cons]
    exact t.reverse.append (.cons r .nil)
theorem Rps.dropLast : ∀ {vs : List V} {ds : List D}, Rps K F m vs ds → Rps K F m vs.dropLast ds.dropLast := fun {vs ds} h => by
  rw [List.dropLast_eq_take, List.dropLast_eq_take, h.length]
  exact h.take _
theorem Rps.eraseIdx : ∀ {vs : List V} {ds : List D} (n : Nat), Rps K F m vs ds → Rps K F m (vs.eraseIdx n) (ds.eraseIdx n)
  | _, _, _, .nil => .nil
  | _, _, 0, .cons _ t => t
  | _, _, n + 1, .cons q t => .cons q (t.eraseIdx n)
theorem Rps.ints : ∀ {vs : List V} {ns : List Int}, Rps K F m vs (ns.map D.int) → vs = ns.map V.int
  | _, [], .nil => rfl
  | _, n :: ns, .cons r t => by
    cases r
    rw [List.map_cons, t.ints]
theorem Rps.ofInts (K : PySem.W.Frag) (F : Hp) (m : Am) : ∀ (ns : List Int), Rps K F m (ns.map V.int) (ns.map D.int)
  | [] => .nil
  | n :: ns => .cons (.int n) (Rps.ofInts K F m ns)
end

/-! ### the store is held by the heap -/
def CellOk (K : PySem.W.Frag) (F : Hp) (m : Am) (H : Hp) (a : Addr) : Cell → Prop
  | .lst ds => F a = none ∧ ∃ vs, H a = some (.lst vs) ∧ Rps K F m vs ds
  | .dic kvs => F a = none ∧ ∃ ws : List (Key × V), H a = some (.dK ws) ∧ ws.map (·.1) = kvs.map (·.1) ∧ Rps K F m (ws.map (·.2)) (kvs.map (·.2))
structure Sto (K : PySem.W.Frag) (F : Hp) (m : Am) (st : Store) (H : Hp) : Prop where
  sub : ∀ a u, F a = some u → H a = some u
  len : m.length = st.length
  cell : ∀ (k : Nat) c a, st[k]? = some c → m[k]? = some a → CellOk K F m H a c
  inj : ∀ (i j : Nat) a, m[i]? = some a → m[j]? = some a → i = j
section
variable {K : PySem.W.Frag} {F F' H H' : Hp} {m m' : Am} {st : Store} {a : Addr} {o : HO}
theorem CellOk.there {c : Cell} (h : CellOk K F m H a c) : ∃ u, H a = some u := by
  cases c with
  | lst ds => obtain ⟨_, vs, h, _⟩ := h; exact ⟨_, h⟩
  | dic kvs => obtain ⟨_, ws, h, _⟩ := h; exact ⟨_, h⟩
theorem CellOk.free {c : Cell} (h : CellOk K F m H a c) : F a = none := by
  cases c with
  | lst ds => exact h.1
  | dic kvs => exact h.1
theorem Sto.cellAt (S : Sto K F m st H) {k : Nat} (hm : m[k]? = some a) : ∃ c, st[k]? = some c ∧ CellOk K F m H a c := by
  have hk : k < m.length := (List.getElem?_eq_some_iff.mp hm).1
  rw [S.len] at hk
  exact ⟨_, List.getElem?_eq_getElem hk, S.cell k _ a (List.getElem?_eq_getElem hk) hm⟩
theorem Sto.addr (S : Sto K F m st H) {k : Nat} {c : Cell} (hk : st[k]? = some c) : ∃ a, m[k]? = some a ∧ CellOk K F m H a c := by
  have h1 : k < st.length := (List.getElem?_eq_some_iff.mp hk).1
  rw [← S.len] at h1
  exact ⟨_, List.getElem?_eq_getElem h1, S.cell k c _ hk (List.getElem?_eq_getElem h1)⟩
theorem ext_upd (hp : H a = none) (sub : ∀ a u, F a = some u → H a = some u) : Ext F m (upd F a o) m :=
  ⟨fun b u h => by
    have hb : b ≠ a := fun e => by
      subst e
      rw [sub _ _ h] at hp
      cases hp
    rw [upd_ne hb]; exact h, fun _ _ h => h⟩
theorem CellOk.up {c : Cell} (h : CellOk K F m H a c) (e : Ext F m F' m') (hH : H' a = H a) (hF : F' a = none) : CellOk K F' m' H' a c := by
  cases c with
  | lst ds =>
    obtain ⟨_, vs, h1, h2⟩ := h
    exact ⟨hF, vs, by rw [hH]; exact h1, h2.up e⟩
  | dic kvs =>
    obtain ⟨_, ws, h1, h0, h2⟩ := h
    exact ⟨hF, ws, by rw [hH]; exact h1, h0, h2.up e⟩
/-- a new object that will not change -/
theorem Sto.new (S : Sto K F m st H) (hp : H a = none) : Sto K (upd F a o) m st (upd H a o) := by
  refine ⟨fun b u h => ?_, S.len, fun k c b hk hb => ?_, S.inj⟩
  · by_cases e : b = a
    · subst e
      rw [upd_same] at h ⊢
      exact h
    · rw [upd_ne e] at h ⊢
      exact S.sub b u h
  · have h := S.cell k c b hk hb
    obtain ⟨u, hu⟩ := h.there
    have e : b ≠ a := ne_of_none hu hp
    exact h.up (ext_upd hp S.sub) (upd_ne e) (by rw [upd_ne e]; exact h.free)
/-- H grows by what is not tracked -/
theorem Sto.grow (S : Sto K F m st H) (h : ∀ a u, H a = some u → H' a = some u) : Sto K F m st H' :=
  ⟨fun b u e => h _ _ (S.sub b u e), S.len, fun k c b hk hb => by
    have q := S.cell k c b hk hb
    obtain ⟨u, hu⟩ := q.there
    exact q.up (Ext.refl F m) ((h _ _ hu).trans hu.symm) q.free, S.inj⟩
theorem get_snoc {α : Type} (l : List α) (x : α) : (l ++ [x])[l.length]? = some x := by simp
theorem get_snoc_of {α : Type} {l : List α} {x y : α} {k : Nat} (h : l[k]? = some y) : (l ++ [x])[k]? = some y := by
  rw [List.getElem?_append_left (List.getElem?_eq_some_iff.mp h).1]
  exact h
theorem get_snoc_inv {α : Type} {l : List α} {x y : α} {k : Nat} (h : (l ++ [x])[k]? = some y) : l[k]? = some y ∨ (k = l.length ∧ y = x) := by
  by_cases hk : k < l.length
  · rw [List.getElem?_append_left hk] at h
    exact .inl h
  · rw [List.getElem?_append_right (by omega)] at h
    have h0 : k - l.length = 0 := by
      by_cases h0 : k - l.length = 0
      · exact h0
      · rw [List.getElem?_eq_none (by simp; omega)] at h
        cases h
    rw [h0] at h
    exact .inr ⟨by omega, by simpa using h.symm⟩
theorem ext_snoc : Ext F m F (m ++ [a]) := ⟨fun _ _ h => h, fun _ _ h => get_snoc_of h⟩
/-- a new cell -/
theorem Sto.newCell (S : Sto K F m st H) (hp : H a = none) {c : Cell} (hc : CellOk K F (m ++ [a]) (upd H a o) a c) : Sto K F (m ++ [a]) (st ++ [c]) (upd H a o) := by
  have hne : ∀ {k : Nat} {b : Addr}, m[k]? = some b → b ≠ a := fun {k b} hb => by
    obtain ⟨_, _, q⟩ := S.cellAt hb
    obtain ⟨u, hu⟩ := q.there
    exact ne_of_none hu hp
  refine ⟨fun b u h => ?_, by simp [S.len], fun k c' b hk hb => ?_, fun i j b hi hj => ?_⟩
  · rw [upd_ne (ne_of_none (S.sub b u h) hp)]
    exact S.sub b u h
  · rcases get_snoc_inv hb with hb | ⟨rfl, rfl⟩
    · have hk' : st[k]? = some c' := by
        rcases get_snoc_inv hk with q | ⟨q, _⟩
        · exact q
        · have := (List.getElem?_eq_some_iff.mp hb).1
          rw [S.len] at this
          omega
      have q := S.cell k c' b hk' hb
      exact q.up ext_snoc (upd_ne (hne hb)) q.free
    · rw [S.len, get_snoc] at hk
      cases hk
      exact hc
  · rcases get_snoc_inv hi with qi | ⟨qi, ei⟩
    · rcases get_snoc_inv hj with qj | ⟨qj, ej⟩
      · exact S.inj i j b qi qj
      · exact absurd ej (hne qi)
    · rcases get_snoc_inv hj with qj | ⟨qj, _⟩
      · exact absurd ei (hne qj)
      · rw [qi, qj]
/-- a cell is written -/
theorem Sto.write (S : Sto K F m st H) {k : Nat} (hm : m[k]? = some a) {c : Cell} (hc : CellOk K F m (upd H a o) a c) : Sto K F m (st.set k c) (upd H a o) := by
  obtain ⟨c0, hc0, q0⟩ := S.cellAt hm
  have hF := q0.free
  refine ⟨fun b u h => ?_, by rw [List.length_set]; exact S.len, fun j c' b hj hb => ?_, S.inj⟩
  · have hb : b ≠ a := fun e => by
      subst e
      rw [h] at hF
      cases hF
    rw [upd_ne hb]
    exact S.sub b u h
  · by_cases e : j = k
    · subst e
      rw [hm] at hb
      cases hb
      rw [List.getElem?_set_self (List.getElem?_eq_some_iff.mp hc0).1] at hj
      cases hj
      exact hc
    · rw [List.getElem?_set_ne (Ne.symm e)] at hj
      have q := S.cell j c' b hj hb
      have hb' : b ≠ a := fun z => e (S.inj j k a (z ▸ hb) hm)
      exact q.up (Ext.refl F m) (upd_ne hb') q.free
end

/-! ### reading data -/
@[simp] def lstOf (d : D) (st : Store) : Option (List D) :=
  match d with
  | .lst ds => some ds
  | .own k => match st[k]? with
    | some (.lst ds) => some ds
    | _ => none
  | _ => none
/-- a list, a locked list -/
@[simp] def rolOf (d : D) (st : Store) : Option (List D) :=
  match d with
  | .rol ds => some ds
  | d => lstOf d st
section
variable {K : PySem.W.Frag} {F H : Hp} {m : Am} {st : Store} {v : V} {d : D} {ds : List D}
theorem lstOf_at (S : Sto K F m st H) (r : Rp K F m v d) (h : lstOf d st = some ds) : ∃ a vs, v = .ref a ∧ H a = some (.lst vs) ∧ Rps K F m vs ds := by
  cases r with
  | lst h1 h2 => cases h; exact ⟨_, _, rfl, S.sub _ _ h1, h2⟩
  | @own k a h1 =>
    obtain ⟨c, hc, q⟩ := S.cellAt h1
    cases c with
    | lst es =>
      simp only [lstOf, hc] at h
      cases h
      obtain ⟨_, vs, h2, h3⟩ := q
      exact ⟨_, _, rfl, h2, h3⟩
    | dic kvs => simp only [lstOf, hc] at h; cases h
  | _ => cases h
theorem rolOf_at (S : Sto K F m st H) (r : Rp K F m v d) (h : rolOf d st = some ds) : ∃ a vs, v = .ref a ∧ SqL K H a vs ∧ Rps K F m vs ds := by
  cases r with
  | rol h1 h2 => cases h; exact ⟨_, _, rfl, sql_mono S.sub h1, h2⟩
  | lst h1 h2 => cases h; exact ⟨_, _, rfl, .inl (.inl (S.sub _ _ h1)), h2⟩
  | @own k a h1 =>
    obtain ⟨a, vs, e, h2, h3⟩ := lstOf_at S (.own h1) (show lstOf (.own k) st = some ds from h)
    exact ⟨a, vs, e, .inl (.inl h2), h3⟩
  | _ => cases h
end

/-! ### results -/
abbrev Exn := Str × Option D
inductive R (α : Type) where
  | ok (a : α) (st : Store)
  | exc (e : Exn) (st : Store)
  | bad
@[simp] def R.bind {α β : Type} (x : R α) (f : α → Store → R β) : R β :=
  match x with
  | .ok a st => f a st
  | .exc e st => .exc e st
  | .bad => .bad
theorem R.bind_ok {α β : Type} (a : α) (st : Store) (f : α → Store → R β) : (R.ok a st).bind f = f a st := rfl
theorem R.bind_exc {α β : Type} (e : Exn) (st : Store) (f : α → Store → R β) : (R.exc e st).bind f = .exc e st := rfl
theorem R.bind_bad {α β : Type} (f : α → Store → R β) : (R.bad : R α).bind f = .bad := rfl

/-- how an exception lies -/
def ExnAt (K : PySem.W.Frag) (mg : Str → Option Value) (F : Hp) (m : Am) (H : Hp) (e : Exn) (cls : Value) (d : Option Addr) : Prop :=
  ∃ C, mg e.1 = some (.ref C) ∧ cls = .ref C ∧ match e.2 with
    | none => d = none
    | some x => ∃ dx v, d = some dx ∧ H dx = some (.xd [("at", v)]) ∧ Rp K F m v x

/-- slots -/
def Rsl (K : PySem.W.Frag) (F : Hp) (m : Am) (sg : Sl) (σ : Slots) : Prop := sg.length = σ.length ∧ ∀ (i : Nat) d, σ[i]? = some (some d) → ∃ v, sg[i]? = some (some v) ∧ Rp K F m v d
theorem Rsl.up {K : PySem.W.Frag} {F F' : Hp} {m m' : Am} {sg : Sl} {σ : Slots} (h : Rsl K F m sg σ) (e : Ext F m F' m') : Rsl K F' m' sg σ :=
  ⟨h.1, fun i d hd => let ⟨v, h1, h2⟩ := h.2 i d hd; ⟨v, h1, h2.up e⟩⟩
theorem Rsl.set {K : PySem.W.Frag} {F : Hp} {m : Am} {sg : Sl} {σ : Slots} (h : Rsl K F m sg σ) {v : V} {d : D} (r : Rp K F m v d) (i : Nat) : Rsl K F m (sg.set i (some v)) (σ.set i (some d)) := by
  refine ⟨by rw [List.length_set, List.length_set]; exact h.1, fun j e he => ?_⟩
  by_cases hj : i = j
  · subst hj
    by_cases hi : i < σ.length
    · rw [List.getElem?_set_self hi] at he
      cases he
      exact ⟨v, List.getElem?_set_self (by rw [h.1]; exact hi), r⟩
    · rw [List.getElem?_eq_none (by rw [List.length_set]; omega)] at he
      cases he
  · rw [List.getElem?_set_ne hj] at he ⊢
    exact h.2 j e he
theorem Rsl.del {K : PySem.W.Frag} {F : Hp} {m : Am} {sg : Sl} {σ : Slots} (h : Rsl K F m sg σ) (i : Nat) (x : Option V) : Rsl K F m (sg.set i x) (σ.set i none) := by
  refine ⟨by rw [List.length_set, List.length_set]; exact h.1, fun j e he => ?_⟩
  by_cases hj : i = j
  · subst hj
    by_cases hi : i < σ.length
    · rw [List.getElem?_set_self hi] at he
      cases he
    · rw [List.getElem?_eq_none (by rw [List.length_set]; omega)] at he
      cases he
  · rw [List.getElem?_set_ne hj] at he ⊢
    exact h.2 j e he

/-! ### what a result asks of a wish -/
section
variable (K : PySem.W.Frag) (mg : Str → Option Value) (W : WX) (sg : Sl)
def Post {α β : Type} (rel : Hp → Am → β → α → Prop) (F : Hp) (m : Am) (r : R α) (Q : β → Hp → Prop) : Prop :=
  match r with
  | .ok a st => ∀ v H' F' m', Ext F m F' m' → Sto K F' m' st H' → rel F' m' v a → Q v H'
  | .exc e st => ∀ H' F' m' cls d, Ext F m F' m' → Sto K F' m' st H' → ExnAt K mg F' m' H' e cls d → W cls d sg H'
  | .bad => False
end
abbrev relE (K : PySem.W.Frag) : Hp → Am → V → D → Prop := fun F m v d => Rp K F m v d
abbrev relA (K : PySem.W.Frag) : Hp → Am → List V → List D → Prop := fun F m v d => Rps K F m v d
abbrev relB : Hp → Am → Bool → Bool → Prop := fun _ _ v d => v = d
abbrev relO : Hp → Am → Option Int → Option Int → Prop := fun _ _ v d => v = d
section
variable {K : PySem.W.Frag} {mg : Str → Option Value} {W : WX} {sg : Sl} {α β γ δ : Type} {rel : Hp → Am → β → α → Prop} {rel2 : Hp → Am → δ → γ → Prop} {F F1 : Hp} {m m1 : Am}
theorem Post.up {r : R α} {Q : β → Hp → Prop} (h : Post K mg W sg rel F m r Q) (e : Ext F m F1 m1) : Post K mg W sg rel F1 m1 r Q := by
  cases r with
  | ok a st => exact fun v H' F' m' x => h v H' F' m' (e.trans x)
  | exc n st => exact fun H' F' m' cls d x => h H' F' m' cls d (e.trans x)
  | bad => exact h
/-- what stands behind the first part -/
def Aft (K : PySem.W.Frag) (mg : Str → Option Value) (W : WX) (sg : Sl) (rel : Hp → Am → β → α → Prop) (rel2 : Hp → Am → δ → γ → Prop) (F : Hp) (m : Am) (f : α → Store → R γ) (Q : δ → Hp → Prop) : β → Hp → Prop := fun v H1 =>
  ∃ a st1 F1 m1, Ext F m F1 m1 ∧ Sto K F1 m1 st1 H1 ∧ rel F1 m1 v a ∧ Post K mg W sg rel2 F1 m1 (f a st1) Q
theorem Post.bind {r : R α} {f : α → Store → R γ} {Q : δ → Hp → Prop} (h : Post K mg W sg rel2 F m (r.bind f) Q) : Post K mg W sg rel F m r (Aft K mg W sg rel rel2 F m f Q) := by
  cases r with
  | ok a st => exact fun v H' F' m' x s r => ⟨a, st, F', m', x, s, r, Post.up h x⟩
  | exc n st => exact h
  | bad => exact h
theorem Post.imp {r : R α} {Q Q' : β → Hp → Prop} (h : Post K mg W sg rel F m r Q) (i : ∀ v H, Q v H → Q' v H) : Post K mg W sg rel F m r Q' := by
  cases r with
  | ok a st => exact fun v H' F' m' x s r => i _ _ (h v H' F' m' x s r)
  | exc n st => exact h
  | bad => exact h
theorem Post.ok {a : α} {st : Store} {Q : β → Hp → Prop} {H : Hp} {v : β} (h : Post K mg W sg rel F m (.ok a st) Q) (S : Sto K F m st H) (r : rel F m v a) : Q v H := h v H F m (Ext.refl F m) S r
end

/-! ### evaluators and the judgements -/
abbrev EE := Slots → Store → R D
abbrev ET := Slots → Store → R Bool
abbrev EA := Slots → Store → R (List D)
abbrev EO := Slots → Store → R (Option Int)
section
variable (K : PySem.W.Frag) (mg : Str → Option Value) (W : WX)
def SmE (t : TE) (ev : EE) : Prop := ∀ sg H F m σ st Q, Sto K F m st H → Rsl K F m sg σ → Post K mg W sg (relE K) F m (ev σ st) Q → t sg H Q
def SmT (t : TT) (ev : ET) : Prop := ∀ sg H F m σ st Q, Sto K F m st H → Rsl K F m sg σ → Post K mg W sg relB F m (ev σ st) Q → t sg H Q
def SmA (t : TA) (ev : EA) : Prop := ∀ sg H F m σ st Q, Sto K F m st H → Rsl K F m sg σ → Post K mg W sg (relA K) F m (ev σ st) Q → t sg H Q
def SmO (t : TO) (ev : EO) : Prop := ∀ sg H F m σ st Q, Sto K F m st H → Rsl K F m sg σ → Post K mg W sg relO F m (ev σ st) Q → t sg H Q
end
/-- an expression keeps to its evaluator -/
def FE (X : Cx) (W : WX) (e : Expr) (ev : EE) : Prop := ∃ t, PE X e t ∧ SmE X.K X.mg W t ev
def FT (X : Cx) (W : WX) (e : Expr) (ev : ET) : Prop := ∃ t, PT X e t ∧ SmT X.K X.mg W t ev
def FW (X : Cx) (W : WX) (e : Expr) (ev : ET) : Prop := ∃ t, PW X e t ∧ SmT X.K X.mg W t ev
def FA (X : Cx) (W : WX) (es : List Expr) (ev : EA) : Prop := ∃ t, PA X es t ∧ SmA X.K X.mg W t ev
def FO (X : Cx) (W : WX) (e : Option Expr) (ev : EO) : Prop := ∃ t, PO X e t ∧ SmO X.K X.mg W t ev
end Fx

set_option Elab.async false
set_option linter.all false
set_option maxRecDepth 100000
set_option maxHeartbeats 4000000
/-! Fx: operations by values, and the expressions -/
namespace Fx
open PySem PySem.Spec PyProof.Rows L2

section
variable (K : PySem.W.Frag) (mg : Str → Option Value) (W : WX)
def SmOp (r : R2) (f : D → D → Store → R D) : Prop := ∀ sg H F m st x y a b Q, Sto K F m st H → Rp K F m x a → Rp K F m y b → Post K mg W sg (relE K) F m (f a b st) Q → r x y H Q
def SmUn (r : V → Hp → VK → Prop) (f : D → Store → R D) : Prop := ∀ sg H F m st x a Q, Sto K F m st H → Rp K F m x a → Post K mg W sg (relE K) F m (f a st) Q → r x H Q
def SmC (r : List V → Hp → VK → Prop) (f : List D → Store → R D) : Prop := ∀ sg H F m st xs ds Q, Sto K F m st H → Rps K F m xs ds → Post K mg W sg (relE K) F m (f ds st) Q → r xs H Q
def SmM (r : V → List V → Hp → VK → Prop) (f : D → List D → Store → R D) : Prop := ∀ sg H F m st x d xs ds Q, Sto K F m st H → Rp K F m x d → Rps K F m xs ds → Post K mg W sg (relE K) F m (f d ds st) Q → r x xs H Q
def SmTr (r : V → Hp → (Bool → Hp → Prop) → Prop) (f : D → Store → R Bool) : Prop := ∀ sg H F m st x a Q, Sto K F m st H → Rp K F m x a → Post K mg W sg relB F m (f a st) Q → r x H Q
end
/-- an operator, a call of a known value, a method, by values, keeps to a function on data -/
def FOp (X : Cx) (W : WX) (g : Value → Value → Sem Value) (f : D → D → Store → R D) : Prop := ∃ r, OpR X g r ∧ SmOp X.K X.mg W r f
def FUn (X : Cx) (W : WX) (g : Value → Sem Value) (f : D → Store → R D) : Prop := ∃ r, UnR X g r ∧ SmUn X.K X.mg W r f
def FIx (X : Cx) (W : WX) (f : D → D → Store → R D) : Prop := ∃ r, IxR X r ∧ SmOp X.K X.mg W r f
def FCl (X : Cx) (W : WX) (g : Value) (f : List D → Store → R D) : Prop := ∃ r, CallR X g r ∧ SmC X.K X.mg W r f
def FMt (X : Cx) (W : WX) (id : String) (f : D → List D → Store → R D) : Prop := ∃ r, MtR X id r ∧ SmM X.K X.mg W r f

/-! ### evaluators of expressions -/
@[simp] def eC (d : D) : EE := fun _ st => .ok d st
@[simp] def eVar (i : Nat) : EE := fun σ st => match σ[i]? with
  | some (some d) => .ok d st
  | _ => .bad
@[simp] def eBin (f : D → D → Store → R D) (a b : EE) : EE := fun σ st => (a σ st).bind fun x st1 => (b σ st1).bind fun y st2 => f x y st2
@[simp] def eUn (f : D → Store → R D) (a : EE) : EE := fun σ st => (a σ st).bind fun x st1 => f x st1
@[simp] def aNil : EA := fun _ st => .ok [] st
@[simp] def aCons (a : EE) (r : EA) : EA := fun σ st => (a σ st).bind fun x st1 => (r σ st1).bind fun xs st2 => .ok (x :: xs) st2
@[simp] def eCall (f : List D → Store → R D) (a : EA) : EE := fun σ st => (a σ st).bind fun ds st1 => f ds st1
def eMt (f : D → List D → Store → R D) (o : EE) (a : EA) : EE := fun σ st => (o σ st).bind fun x st1 => (a σ st1).bind fun ds st2 => f x ds st2
@[simp] def eTup (a : EA) : EE := fun σ st => (a σ st).bind fun ds st1 => if ds.length ≤ 16777216 then .ok (.tup ds) st1 else .bad
@[simp] def eLst (a : EA) : EE := fun σ st => (a σ st).bind fun ds st1 => if ds.length ≤ 16777216 then .ok (.own st1.length) (st1 ++ [.lst ds]) else .bad
@[simp] def toBool (d : D) (st : Store) : R Bool := match d with
  | .bl b => .ok b st
  | _ => .bad
@[simp] def tV (e : EE) : ET := fun σ st => (e σ st).bind toBool
@[simp] def tAnd2 (a b : ET) : ET := fun σ st => (a σ st).bind fun x st1 => if x then b σ st1 else .ok false st1
@[simp] def tOr2 (a b : ET) : ET := fun σ st => (a σ st).bind fun x st1 => if x then .ok true st1 else b σ st1
@[simp] def tNot1 (a : ET) : ET := fun σ st => (a σ st).bind fun x st1 => .ok (!x) st1
def eB (a : ET) : EE := fun σ st => (a σ st).bind fun x st1 => .ok (.bl x) st1
@[simp] def eAnd2 (a b : EE) : EE := fun σ st => (a σ st).bind fun x st1 => match x with
  | .bl true => b σ st1
  | .bl false => .ok (.bl false) st1
  | _ => .bad
@[simp] def eOr2 (a b : EE) : EE := fun σ st => (a σ st).bind fun x st1 => match x with
  | .bl false => b σ st1
  | .bl true => .ok (.bl true) st1
  | _ => .bad
@[simp] def eNot1 (a : EE) : EE := fun σ st => (a σ st).bind fun x st1 => match x with
  | .bl b => .ok (.bl (!b)) st1
  | _ => .bad
@[simp] def eIf (t : ET) (a b : EE) : EE := fun σ st => (t σ st).bind fun x st1 => if x then a σ st1 else b σ st1
@[simp] def oNone : EO := fun _ st => .ok none st
@[simp] def oSome (a : EE) : EO := fun σ st => (a σ st).bind fun x st1 => match x with
  | .int i => .ok (some i) st1
  | _ => .bad
@[simp] def eSl (f : D → Option Int → Option Int → Store → R D) (a : EE) (lo hi : EO) : EE := fun σ st => (a σ st).bind fun x st1 => (lo σ st1).bind fun l st2 => (hi σ st2).bind fun h st3 => f x l h st3

theorem post_ite {K : PySem.W.Frag} {mg : Str → Option Value} {W : WX} {sg : Sl} {α β : Type} {rel : Hp → Am → β → α → Prop} {F : Hp} {m : Am} {c : Prop} {inst : Decidable c} {r : R α} {Q : β → Hp → Prop} (P : Post K mg W sg rel F m (@ite _ c inst r .bad) Q) : c ∧ Post K mg W sg rel F m r Q := by
  by_cases h : c
  · rw [if_pos h] at P
    exact ⟨h, P⟩
  · rw [if_neg h] at P
    exact False.elim P

/-! ### the rules of expressions -/
section
variable {X : Cx} {W : WX} {a b e : Expr} {es : List Expr} {ea eb : EE} {ta tb : ET} {pos : Pos}
theorem fe_of {d : D} {v : V} (h : PE X e (tC v)) (r : ∀ F m, Rp X.K F m v d) : FE X W e (eC d) :=
  ⟨_, h, fun sg H F m σ st Q S R P => P.ok S (r F m)⟩
theorem fe_int {i : Int} {j} : FE X W (.Constant (.int i) j pos) (eC (.int i)) := fe_of pe_int fun _ _ => .int i
theorem fe_bl {b : Bool} {j} : FE X W (.Constant (.bool b) j pos) (eC (.bl b)) := fe_of pe_bl fun _ _ => .bl b
theorem fe_non {j} : FE X W (.Constant .none j pos) (eC .non) := fe_of pe_non fun _ _ => .non
theorem fe_str {x : Str} {j} : FE X W (.Constant (.str x) j pos) (eC (.str x)) := fe_of pe_str fun _ _ => .str x
theorem fe_var {i : Nat} {x : Str} (hN : X.N[i]? = some x) (hv : Vis X.env.scope x) (hd : (x == ("__debug__" : Str)) = false := by decide) (hcd : (x == ("__classdict__" : Str)) = false := by decide) : FE X W (.Name x pos) (eVar i) := by
  refine ⟨_, pe_var hN hv hd hcd, fun sg H F m σ st Q S R P => ?_⟩
  unfold eVar at P
  split at P
  · rename_i d hd
    obtain ⟨v, h1, h2⟩ := R.2 i d hd
    exact ⟨v, h1, P.ok S h2⟩
  · exact False.elim P
theorem fe_bin {op : Operator} {f : D → D → Store → R D} (h : FOp X W (binaryOp op) f) (ha : FE X W a ea) (hb : FE X W b eb) : FE X W (.BinOp a op b pos) (eBin f ea eb) := by
  obtain ⟨r, ho, hr⟩ := h
  obtain ⟨t1, p1, s1⟩ := ha
  obtain ⟨t2, p2, s2⟩ := hb
  refine ⟨_, pe_op ho p1 p2, fun sg H F m σ st Q S R P => s1 _ _ _ _ _ _ _ S R (P.bind.imp ?_)⟩
  rintro x H1 ⟨da, st1, F1, m1, x1, S1, r1, P1⟩
  refine s2 _ _ _ _ _ _ _ S1 (R.up x1) (P1.bind.imp ?_)
  rintro y H2 ⟨db, st2, F2, m2, x2, S2, r2, P2⟩
  exact hr _ _ _ _ _ _ _ _ _ _ S2 (r1.up x2) r2 P2
theorem fe_un {op : UnaryOp} {f : D → Store → R D} (h : FUn X W (unaryOp op) f) (ha : FE X W a ea) : FE X W (.UnaryOp op a pos) (eUn f ea) := by
  obtain ⟨r, ho, hr⟩ := h
  obtain ⟨t1, p1, s1⟩ := ha
  refine ⟨_, pe_un ho p1, fun sg H F m σ st Q S R P => s1 _ _ _ _ _ _ _ S R (P.bind.imp ?_)⟩
  rintro x H1 ⟨da, st1, F1, m1, x1, S1, r1, P1⟩
  exact hr _ _ _ _ _ _ _ _ S1 r1 P1
theorem fe_cmp {op : CmpOp} {f : D → D → Store → R D} (h : FOp X W (compareOp op) f) (ha : FE X W a ea) (hb : FE X W b eb) (hm : behindInMarks op b = false) : FE X W (.Compare a [op] [b] pos) (eBin f ea eb) := by
  obtain ⟨r, ho, hr⟩ := h
  obtain ⟨t1, p1, s1⟩ := ha
  obtain ⟨t2, p2, s2⟩ := hb
  refine ⟨_, pe_cmpR ho p1 p2 hm, fun sg H F m σ st Q S R P => s1 _ _ _ _ _ _ _ S R (P.bind.imp ?_)⟩
  rintro x H1 ⟨da, st1, F1, m1, x1, S1, r1, P1⟩
  refine s2 _ _ _ _ _ _ _ S1 (R.up x1) (P1.bind.imp ?_)
  rintro y H2 ⟨db, st2, F2, m2, x2, S2, r2, P2⟩
  exact hr _ _ _ _ _ _ _ _ _ _ S2 (r1.up x2) r2 P2
/-- what an expression's value must be to be a test's answer -/
theorem post_bool {K : PySem.W.Frag} {mg : Str → Option Value} {sg : Sl} {F : Hp} {m : Am} {r : R D} {Q : Bool → Hp → Prop} (P : Post K mg W sg relB F m (r.bind toBool) Q) :
    Post K mg W sg (relE K) F m r fun x H' => ∃ k, x = .bl k ∧ Q k H' := by
  refine P.bind.imp ?_
  rintro x H1 ⟨d, st1, F1, m1, x1, S1, r1, P1⟩
  cases r1 <;> first | exact ⟨_, rfl, P1.ok S1 rfl⟩ | exact False.elim P1
theorem ft_cmp {op : CmpOp} {f : D → D → Store → R D} (h : FOp X W (compareOp op) f) (ha : FE X W a ea) (hb : FE X W b eb) (hm : behindInMarks op b = false) : FT X W (.Compare a [op] [b] pos) (tV (eBin f ea eb)) := by
  obtain ⟨r, ho, hr⟩ := h
  obtain ⟨t1, p1, s1⟩ := ha
  obtain ⟨t2, p2, s2⟩ := hb
  refine ⟨_, pt_cmpR ho p1 p2 hm, fun sg H F m σ st Q S R P => ?_⟩
  have P0 := post_bool (r := eBin f ea eb σ st) P
  refine s1 _ _ _ _ _ _ _ S R (P0.bind.imp ?_)
  rintro x H1 ⟨da, st1, F1, m1, x1, S1, r1, P1⟩
  refine s2 _ _ _ _ _ _ _ S1 (R.up x1) (P1.bind.imp ?_)
  rintro y H2 ⟨db, st2, F2, m2, x2, S2, r2, P2⟩
  exact hr _ _ _ _ _ _ _ _ _ _ S2 (r1.up x2) r2 P2
theorem ft_val (h : FE X W e ea) (he : ∀ whole, isTrue e X.env whole = (do let v ← whole; standAt e.pos; holding [v] (truthy v)) := by intro _; rfl) : FT X W e (tV ea) := by
  obtain ⟨t, p, s⟩ := h
  exact ⟨_, pt_val p he, fun sg H F m σ st Q S R P => s _ _ _ _ _ _ _ S R (post_bool (r := ea σ st) P)⟩

theorem fw_and1 (ha : FT X W a ta) : FW X W (.BoolOp .And [a] pos) ta := let ⟨t, p, s⟩ := ha; ⟨t, pw_and1 p, s⟩
theorem fw_or1 (ha : FT X W a ta) : FW X W (.BoolOp .Or [a] pos) ta := let ⟨t, p, s⟩ := ha; ⟨t, pw_or1 p, s⟩
theorem fw_and {rest : List Expr} (ha : FT X W a ta) (hb : FW X W (.BoolOp .And (b :: rest) pos) tb) : FW X W (.BoolOp .And (a :: b :: rest) pos) (tAnd2 ta tb) := by
  obtain ⟨t1, p1, s1⟩ := ha
  obtain ⟨t2, p2, s2⟩ := hb
  refine ⟨_, pw_and p1 p2, fun sg H F m σ st Q S R P => s1 _ _ _ _ _ _ _ S R (P.bind.imp ?_)⟩
  rintro x H1 ⟨da, st1, F1, m1, x1, S1, r1, P1⟩
  cases r1
  cases x with
  | true => exact s2 _ _ _ _ _ _ _ S1 (R.up x1) P1
  | false => exact P1.ok S1 rfl
theorem fw_or {rest : List Expr} (ha : FT X W a ta) (hb : FW X W (.BoolOp .Or (b :: rest) pos) tb) : FW X W (.BoolOp .Or (a :: b :: rest) pos) (tOr2 ta tb) := by
  obtain ⟨t1, p1, s1⟩ := ha
  obtain ⟨t2, p2, s2⟩ := hb
  refine ⟨_, pw_or p1 p2, fun sg H F m σ st Q S R P => s1 _ _ _ _ _ _ _ S R (P.bind.imp ?_)⟩
  rintro x H1 ⟨da, st1, F1, m1, x1, S1, r1, P1⟩
  cases r1
  cases x with
  | false => exact s2 _ _ _ _ _ _ _ S1 (R.up x1) P1
  | true => exact P1.ok S1 rfl
theorem ft_w (h : FW X W a ta) : FT X W a ta := let ⟨t, p, s⟩ := h; ⟨t, p.pt, s⟩
theorem ft_not (ha : FT X W a ta) : FT X W (.UnaryOp .Not a pos) (tNot1 ta) := by
  obtain ⟨t1, p1, s1⟩ := ha
  refine ⟨_, pt_not p1, fun sg H F m σ st Q S R P => s1 _ _ _ _ _ _ _ S R (P.bind.imp ?_)⟩
  rintro x H1 ⟨da, st1, F1, m1, x1, S1, r1, P1⟩
  cases r1
  exact P1.ok S1 rfl
theorem fe_one {op} (h : FE X W a ea) : FE X W (.BoolOp op [a] pos) ea := let ⟨t, p, s⟩ := h; ⟨t, pe_one p, s⟩
theorem fe_and {rest : List Expr} (ha : FE X W a ea) (hb : FE X W (.BoolOp .And (b :: rest) pos) eb) : FE X W (.BoolOp .And (a :: b :: rest) pos) (eAnd2 ea eb) := by
  obtain ⟨t1, p1, s1⟩ := ha
  obtain ⟨t2, p2, s2⟩ := hb
  refine ⟨_, pe_and p1 p2, fun sg H F m σ st Q S R P => s1 _ _ _ _ _ _ _ S R (P.bind.imp ?_)⟩
  rintro x H1 ⟨da, st1, F1, m1, x1, S1, r1, P1⟩
  cases r1 with
  | bl c =>
    refine ⟨c, rfl, ?_⟩
    cases c with
    | true => exact s2 _ _ _ _ _ _ _ S1 (R.up x1) P1
    | false => exact P1.ok S1 (Rp.bl false)
  | _ => exact False.elim P1
theorem fe_or {rest : List Expr} (ha : FE X W a ea) (hb : FE X W (.BoolOp .Or (b :: rest) pos) eb) : FE X W (.BoolOp .Or (a :: b :: rest) pos) (eOr2 ea eb) := by
  obtain ⟨t1, p1, s1⟩ := ha
  obtain ⟨t2, p2, s2⟩ := hb
  refine ⟨_, pe_or p1 p2, fun sg H F m σ st Q S R P => s1 _ _ _ _ _ _ _ S R (P.bind.imp ?_)⟩
  rintro x H1 ⟨da, st1, F1, m1, x1, S1, r1, P1⟩
  cases r1 with
  | bl c =>
    refine ⟨c, rfl, ?_⟩
    cases c with
    | false => exact s2 _ _ _ _ _ _ _ S1 (R.up x1) P1
    | true => exact P1.ok S1 (Rp.bl true)
  | _ => exact False.elim P1
theorem fe_not (ha : FE X W a ea) : FE X W (.UnaryOp .Not a pos) (eNot1 ea) := by
  obtain ⟨t1, p1, s1⟩ := ha
  refine ⟨_, pe_not p1, fun sg H F m σ st Q S R P => s1 _ _ _ _ _ _ _ S R (P.bind.imp ?_)⟩
  rintro x H1 ⟨da, st1, F1, m1, x1, S1, r1, P1⟩
  cases r1 with
  | bl c => exact ⟨c, rfl, P1.ok S1 (Rp.bl _)⟩
  | _ => exact False.elim P1
theorem fe_ifexp {c : Expr} (hc : FT X W c ta) (ha : FE X W a ea) (hb : FE X W b eb) : FE X W (.IfExp c a b pos) (eIf ta ea eb) := by
  obtain ⟨t0, p0, s0⟩ := hc
  obtain ⟨t1, p1, s1⟩ := ha
  obtain ⟨t2, p2, s2⟩ := hb
  refine ⟨_, pe_ifExp p0 p1 p2, fun sg H F m σ st Q S R P => s0 _ _ _ _ _ _ _ S R (P.bind.imp ?_)⟩
  rintro x H1 ⟨da, st1, F1, m1, x1, S1, r1, P1⟩
  cases r1
  cases x with
  | true => exact s1 _ _ _ _ _ _ _ S1 (R.up x1) P1
  | false => exact s2 _ _ _ _ _ _ _ S1 (R.up x1) P1

/-! ### argument lists, displays -/
theorem fa_nil : FA X W [] aNil := ⟨_, pa_nil, fun sg H F m σ st Q S R P => P.ok S .nil⟩
theorem fa_cons {aa : EA} (ha : FE X W e ea) (hr : FA X W es aa) (hs : starEach (e :: es) X.env = (false, eval e X.env) :: starEach es X.env := by rfl) : FA X W (e :: es) (aCons ea aa) := by
  obtain ⟨t1, p1, s1⟩ := ha
  obtain ⟨t2, p2, s2⟩ := hr
  refine ⟨_, pa_cons p1 p2 hs, fun sg H F m σ st Q S R P => s1 _ _ _ _ _ _ _ S R (P.bind.imp ?_)⟩
  rintro x H1 ⟨da, st1, F1, m1, x1, S1, r1, P1⟩
  refine s2 _ _ _ _ _ _ _ S1 (R.up x1) (P1.bind.imp ?_)
  rintro xs H2 ⟨ds, st2, F2, m2, x2, S2, r2, P2⟩
  exact P2.ok S2 (.cons (r1.up x2) r2)
/-- a tuple display, its object known -/
def tTupF (t : TA) : TE := fun σ H Q => t σ H fun xs H1 => xs.length ≤ sizeLine ∧ ∀ (p : Addr) (o : Obj), H1 p = none → o.dict = none → Q (.ref p) (upd H1 p (.frz o (.tup xs)))
theorem pe_tupF {x1} {t : TA} (h : PA X es t) : PE X (.Tuple es x1 pos) (tTupF t) := by
  refine ⟨fun pins s σ H Q I hq => wpAny_Tuple_spliced (thn (h.run pos pins s σ H _ I hq) ?_)⟩
  rintro us s1 ⟨xs, H1, I1, r, z, q⟩
  refine ⟨by rw [← r.length]; exact z, ?_⟩
  have fr := I1.hok.fresh (Nat.le_refl s1.heap.objs.size)
  have J := I1.laid (a := s1.heap.objs.size) (o := .frz { cls := .type "tuple", data := .seq us.toArray } (.tup xs)) (t' := s1.toks) (fun b u e => Heap.get?_push_of_some { cls := .type "tuple", data := .seq us.toArray } e) (Nat.le_refl _)
    ⟨Heap.get?_push_size _ rfl, z, us, r, ⟨_, Heap.get?_push_size _ rfl, rfl, _, rfl⟩⟩
  exact ⟨.ref s1.heap.objs.size, _, J, rfl, q _ _ fr rfl⟩
theorem sl16 {n : Nat} (h : n ≤ 16777216) : n ≤ sizeLine := by rw [sizeLine_eq]; exact h
/-- a new tuple -/
theorem post_tup {K : PySem.W.Frag} {mg : Str → Option Value} {sg : Sl} {F : Hp} {m : Am} {st : Store} {H : Hp} {ds : List D} {xs : List V} {Q : VK} {p : Addr} {o : Obj} (P : Post K mg W sg (relE K) F m (.ok (.tup ds) st) Q) (S : Sto K F m st H) (r : Rps K F m xs ds)
    (hp : H p = none) (ho : o.dict = none) : Q (.ref p) (upd H p (.frz o (.tup xs))) :=
  P _ _ _ _ (ext_upd hp S.sub) (S.new hp) (.tup (.inl ⟨o, upd_same, ho⟩) (r.up (ext_upd hp S.sub)))
/-- a new list -/
theorem post_lst {K : PySem.W.Frag} {mg : Str → Option Value} {sg : Sl} {F : Hp} {m : Am} {st : Store} {H : Hp} {ds : List D} {xs : List V} {Q : VK} {p : Addr} (P : Post K mg W sg (relE K) F m (.ok (.own st.length) (st ++ [.lst ds])) Q) (S : Sto K F m st H) (r : Rps K F m xs ds)
    (hp : H p = none) : Q (.ref p) (upd H p (.lst xs)) := by
  have fF : F p = none := by
    cases h : F p with
    | none => rfl
    | some u => rw [S.sub _ _ h] at hp; cases hp
  refine P _ _ F (m ++ [p]) ext_snoc (S.newCell hp ⟨fF, xs, upd_same, r.up ext_snoc⟩) (.own ?_)
  rw [← S.len]
  exact get_snoc _ _
theorem fe_tup {x1} {aa : EA} (h : FA X W es aa) : FE X W (.Tuple es x1 pos) (eTup aa) := by
  obtain ⟨t1, p1, s1⟩ := h
  refine ⟨_, pe_tupF p1, fun sg H F m σ st Q S R P => s1 _ _ _ _ _ _ _ S R (P.bind.imp ?_)⟩
  rintro xs H1 ⟨ds, st1, F1, m1, x1, S1, r1, P1⟩
  obtain ⟨c, P1⟩ := post_ite P1
  exact ⟨sl16 (by rw [r1.length]; exact c), fun p o hp ho => post_tup P1 S1 r1 hp ho⟩
theorem fe_lst {aa : EA} (h : FA X W es aa) : FE X W (.List es pos) (eLst aa) := by
  obtain ⟨t1, p1, s1⟩ := h
  refine ⟨_, pe_lst p1, fun sg H F m σ st Q S R P => s1 _ _ _ _ _ _ _ S R (P.bind.imp ?_)⟩
  rintro xs H1 ⟨ds, st1, F1, m1, x1, S1, r1, P1⟩
  obtain ⟨c, P1⟩ := post_ite P1
  exact ⟨sl16 (by rw [r1.length]; exact c), fun p hp => post_lst P1 S1 r1 hp⟩

/-! ### calls of what is built in -/
theorem fe_callB {id : String} {f : List D → Store → R D} {aa : EA} {x : Str} {p : Pos} (hf : FCl X W (.builtin id) f) (hm : X.mg x = none) (ha : FA X W (e :: es) aa) (hg : Gl X x := by rfl) (hv : bootBuiltins x = some (.builtin id) := by decide +kernel) (hn : x ≠ "__name__" := by decide) (hdb : (x == ("__debug__" : Str)) = false := by decide)
    (he : starEach (e :: es) X.env = (false, eval e X.env) :: starEach es X.env := by rfl) (hpl : (backTo pos (starEach es X.env)).any (·.1) = false := by rfl) : FE X W (.Call (.Name x p) (e :: es) [] pos) (eCall f aa) := by
  obtain ⟨r, ho, hr⟩ := hf
  obtain ⟨t1, p1, s1⟩ := ha
  refine ⟨_, pe_callB ho hg hm hv p1 hn hdb he hpl, fun sg H F m σ st Q S R P => s1 _ _ _ _ _ _ _ S R (P.bind.imp ?_)⟩
  rintro xs H1 ⟨ds, st1, F1, m1, x1, S1, r1, P1⟩
  exact hr _ _ _ _ _ _ _ _ S1 r1 P1
theorem fe_callT {T : String} {f : List D → Store → R D} {aa : EA} {x : Str} {p : Pos} (hf : FCl X W (.type T) f) (hm : X.mg x = none) (ha : FA X W (e :: es) aa) (hg : Gl X x := by rfl) (hv : bootBuiltins x = some (.type T) := by decide +kernel) (hn : x ≠ "__name__" := by decide) (hdb : (x == ("__debug__" : Str)) = false := by decide)
    (he : starEach (e :: es) X.env = (false, eval e X.env) :: starEach es X.env := by rfl) (hpl : (backTo pos (starEach es X.env)).any (·.1) = false := by rfl) : FE X W (.Call (.Name x p) (e :: es) [] pos) (eCall f aa) := by
  obtain ⟨r, ho, hr⟩ := hf
  obtain ⟨t1, p1, s1⟩ := ha
  refine ⟨_, pe_callTy ho hg hm hv p1 hn hdb he hpl, fun sg H F m σ st Q S R P => s1 _ _ _ _ _ _ _ S R (P.bind.imp ?_)⟩
  rintro xs H1 ⟨ds, st1, F1, m1, x1, S1, r1, P1⟩
  exact hr _ _ _ _ _ _ _ _ S1 r1 P1

/-! ### subscripts and slices -/
theorem fe_ix {f : D → D → Store → R D} (hf : FIx X W f) (ha : FE X W a ea) (hb : FE X W b eb) (hs : PlainIx b := by exact fun _ _ => rfl) : FE X W (.Subscript a b pos) (eBin f ea eb) := by
  obtain ⟨r, ho, hr⟩ := hf
  obtain ⟨t1, p1, s1⟩ := ha
  obtain ⟨t2, p2, s2⟩ := hb
  refine ⟨_, pe_ix ho p1 p2 hs, fun sg H F m σ st Q S R P => s1 _ _ _ _ _ _ _ S R (P.bind.imp ?_)⟩
  rintro x H1 ⟨da, st1, F1, m1, x1, S1, r1, P1⟩
  refine s2 _ _ _ _ _ _ _ S1 (R.up x1) (P1.bind.imp ?_)
  rintro y H2 ⟨db, st2, F2, m2, x2, S2, r2, P2⟩
  exact hr _ _ _ _ _ _ _ _ _ _ S2 (r1.up x2) r2 P2
theorem fo_none : FO X W none oNone := ⟨_, po_none, fun sg H F m σ st Q S R P => P.ok S rfl⟩
theorem fo_some (h : FE X W e ea) : FO X W (some e) (oSome ea) := by
  obtain ⟨t1, p1, s1⟩ := h
  refine ⟨_, po_some p1, fun sg H F m σ st Q S R P => s1 _ _ _ _ _ _ _ S R (P.bind.imp ?_)⟩
  rintro x H1 ⟨da, st1, F1, m1, x1, S1, r1, P1⟩
  cases r1 with
  | int i => exact ⟨i, rfl, P1.ok S1 rfl⟩
  | _ => exact False.elim P1
def SmSl (K : PySem.W.Frag) (mg : Str → Option Value) (W : WX) (r : V → Option Int → Option Int → Hp → VK → Prop) (f : D → Option Int → Option Int → Store → R D) : Prop :=
  ∀ sg H F m st x a lo hi Q, Sto K F m st H → Rp K F m x a → Post K mg W sg (relE K) F m (f a lo hi st) Q → r x lo hi H Q
def FSl (X : Cx) (W : WX) (f : D → Option Int → Option Int → Store → R D) : Prop := ∃ r, SlR X r ∧ SmSl X.K X.mg W r f
theorem fe_slice {f : D → Option Int → Option Int → Store → R D} {lo hi : Option Expr} {el eh : EO} {p2 : Pos} (hf : FSl X W f) (ha : FE X W a ea) (hl : FO X W lo el) (hh : FO X W hi eh) : FE X W (.Subscript a (.Slice lo hi none p2) pos) (eSl f ea el eh) := by
  obtain ⟨r, ho, hr⟩ := hf
  obtain ⟨t1, p1, s1⟩ := ha
  obtain ⟨t2, p2, s2⟩ := hl
  obtain ⟨t3, p3, s3⟩ := hh
  refine ⟨_, pe_slice ho p1 p2 p3, fun sg H F m σ st Q S R P => s1 _ _ _ _ _ _ _ S R (P.bind.imp ?_)⟩
  rintro x H1 ⟨da, st1, F1, m1, x1, S1, r1, P1⟩
  refine s2 _ _ _ _ _ _ _ S1 (R.up x1) (P1.bind.imp ?_)
  rintro l H2 ⟨dl, st2, F2, m2, x2, S2, r2, P2⟩
  refine s3 _ _ _ _ _ _ _ S2 ((R.up x1).up x2) (P2.bind.imp ?_)
  rintro h H3 ⟨dh, st3, F3, m3, x3, S3, r3, P3⟩
  cases r2
  cases r3
  exact hr _ _ _ _ _ _ _ _ _ _ S3 ((r1.up x2).up x3) P3

/-! ### methods of built-in types -/
end
end Fx

set_option Elab.async false
set_option linter.all false
set_option maxRecDepth 100000
set_option maxHeartbeats 4000000
/-! Fx: operations on data -/
namespace Fx
open PySem PySem.Spec PyProof.Rows L2

theorem lt16 {n : Nat} (h : n < 16777216) : n < sizeLine := by rw [sizeLine_eq]; exact h
/-! ### arithmetic -/
@[simp] def dAdd (a b : D) (st : Store) : R D := match a, b with
  | .int i, .int j => .ok (.int (i + j)) st
  | .str x, .str y => if x.length + y.length ≤ 16777216 then .ok (.str (x ++ y)) st else .bad
  | .tup xs, .tup ys => if xs.length + ys.length ≤ 16777216 then .ok (.tup (xs ++ ys)) st else .bad
  | a, b => match lstOf a st, lstOf b st with
    | some xs, some ys => if xs.length + ys.length ≤ 16777216 then .ok (.own st.length) (st ++ [.lst (xs ++ ys)]) else .bad
    | _, _ => .bad
@[simp] def dSub (a b : D) (st : Store) : R D := match a, b with
  | .int i, .int j => .ok (.int (i - j)) st
  | _, _ => .bad
@[simp] def tiny (i : Int) : Bool := decide (-18446744073709551616 < i) && decide (i < 18446744073709551616)
@[simp] def dMul (a b : D) (st : Store) : R D := match a, b with
  | .int i, .int j => if tiny i || tiny j then .ok (.int (i * j)) st else .bad
  | .tup xs, .int k => if xs.length * k.toNat ≤ 1000000 ∧ 2 ≤ k ∧ k ≤ 1000000 ∧ xs ≠ [] then .ok (.tup (List.replicate k.toNat xs).flatten) st else .bad
  | a, .int k => match lstOf a st with
    | some xs => if xs.length * k.toNat ≤ 16777216 ∧ -1000000 ≤ k ∧ k ≤ 1000000 then .ok (.own st.length) (st ++ [.lst (List.replicate k.toNat xs).flatten]) else .bad
    | none => .bad
  | _, _ => .bad
@[simp] def dFdiv (a b : D) (st : Store) : R D := match a, b with
  | .int i, .int j => if 0 < j ∧ j < 1073741824 then .ok (.int (i / j)) st else if 0 < j ∧ j < 1000000000000000000000000000000000000 then .ok (.int (i / j)) st else .bad
  | _, _ => .bad
@[simp] def dMod (a b : D) (st : Store) : R D := match a, b with
  | .int i, .int j => if 0 < j then .ok (.int (i % j)) st else .bad
  | _, _ => .bad
@[simp] def dPow (a b : D) (st : Store) : R D := match a, b with
  | .int i, .int j => if 0 ≤ j ∧ j ≤ 1000 ∧ tiny i = true then .ok (.int (i ^ j.toNat)) st else .bad
  | _, _ => .bad
@[simp] def dNeg (a : D) (st : Store) : R D := match a with
  | .int i => .ok (.int (-i)) st
  | _ => .bad
theorem tiny_iff {i : Int} (h : tiny i = true) : -(2 ^ 64) < i ∧ i < 2 ^ 64 := by
  unfold tiny at h
  rw [Bool.and_eq_true, decide_eq_true_eq, decide_eq_true_eq] at h
  omega

section
variable {X : Cx} {W : WX}
/-- tuple + tuple, its object known -/
def rCatF (K : PySem.W.Frag) : R2 := fun x y H Q => ∃ a b xs ys, x = .ref a ∧ y = .ref b ∧ SqT K H a xs ∧ SqT K H b ys ∧ xs.length + ys.length ≤ sizeLine ∧
  (xs = [] → Q (.ref b) H) ∧ (xs ≠ [] → ys = [] → Q (.ref a) H) ∧ (xs ≠ [] → ys ≠ [] → ∀ (p : Addr) (o : Obj), H p = none → o.dict = none → Q (.ref p) (upd H p (.frz o (.tup (xs ++ ys)))))

/-- the object of a tuple that was just laid -/
abbrev tupO (us : List Value) : Obj := { cls := .type "tuple", data := .seq us.toArray }
theorem tup_laid {pins : List (Addr × Obj)} {sg : Sl} {H : Hp} {s : Shared} {us : List Value} {zs : List V} (I : Inv X pins sg H s) (r : Vals zs us) (hz : zs.length ≤ sizeLine) :
    Inv X pins sg (upd H s.heap.objs.size (.frz (tupO us) (.tup zs))) { s with heap := s.heap.push (tupO us) } :=
  I.laid (t' := s.toks) (fun b ob q => Heap.get?_push_of_some (tupO us) q) (Nat.le_refl _) ⟨Heap.get?_push_size _ rfl, hz, us, r, IsTup.new _ _⟩
theorem op_catF : OpR X (binaryOp .Add) (rCatF X.K) := by
  rintro pins s sg H x y v u Q I rx ry ⟨a, b, xs, ys, rfl, rfl, ha, hb, hz, q0, q1, q2⟩
  cases rx; cases ry
  obtain ⟨l1, r1, p1, _⟩ := I.tuple ha
  obtain ⟨l2, r2, p2, _⟩ := I.tuple hb
  by_cases hx : xs = []
  · subst hx
    cases r1
    exact cat_tup0 p1 p2 ⟨.ref b, H, I, rfl, q0 rfl⟩
  · refine HT.cat_tup p1 p2 (fun z => hx (r1.nil_iff.mp z)) (fun z => ⟨V.ref a, H, I, rfl, q1 hx (r2.nil_iff.mp z)⟩) (fun z => ?_) (r1.length ▸ r2.length ▸ hz)
    exact ⟨.ref _, _, tup_laid I (r1.append r2) (by rw [List.length_append]; exact hz), rfl, q2 hx (fun w => z (r2.nil_iff.mpr w)) _ _ (I.hok.fresh (Nat.le_refl _)) rfl⟩
def cutD (ds : List D) (lo hi : Option Int) : List D := (ds.drop (HT.sIx ds.length 0 lo)).take (HT.sIx ds.length ds.length hi - HT.sIx ds.length 0 lo)
def rSlF (K : PySem.W.Frag) : V → Option Int → Option Int → Hp → VK → Prop := fun x lo hi H Q => ∃ a xs, x = .ref a ∧ SqT K H a xs ∧
  (HT.sIx xs.length 0 lo = 0 ∧ HT.sIx xs.length xs.length hi = xs.length → Q (.ref a) H) ∧
  (¬ (HT.sIx xs.length 0 lo = 0 ∧ HT.sIx xs.length xs.length hi = xs.length) → ∀ (p : Addr) (o : Obj), H p = none → o.dict = none → Q (.ref p) (upd H p (.frz o (.tup (cutV xs lo hi)))))
theorem sl_tupF : SlR X (rSlF X.K) := by
  rintro pins s sg H x v vl vu lo hi sl Q I rx hs pl pu ⟨a, xs, rfl, hx, q1, q2⟩
  cases rx
  obtain ⟨its, r, ht, hz⟩ := I.tuple hx
  have hlen : its.toArray.size = xs.length := (List.size_toArray (as := its)).trans r.length.symm
  refine ⟨"tuple", _, PyProof.Rows.slot_tuple_getitem.lookup, ht.typeIs, ?_⟩
  by_cases hw : HT.sIx xs.length 0 lo = 0 ∧ HT.sIx xs.length xs.length hi = xs.length
  · exact getItem_tuple_whole ht hs pl pu (hlen ▸ hw) ⟨.ref a, H, I, rfl, q1 hw⟩
  · refine HT.getItem_tuple_cut ht hs pl pu (hlen ▸ hw) ?_ (hlen ▸ hz)
    rw [hlen]
    exact ⟨.ref _, _, tup_laid I ((r.drop _).take _) (Nat.le_trans (cutV_length xs lo hi) hz), rfl, q2 hw _ _ (I.hok.fresh (Nat.le_refl _)) rfl⟩
theorem call_tupF : CallR X (.type "tuple") (fun xs H Q => ∃ p ys, xs = [.ref p] ∧ ((SqL X.K H p ys ∧ ∀ (l : Addr) (o : Obj), H l = none → o.dict = none → Q (.ref l) (upd H l (.frz o (.tup ys)))) ∨ (SqT X.K H p ys ∧ Q (.ref p) H))) := by
  rintro pins s sg H xs us Q I r ⟨p, ys, rfl, h⟩
  obtain ⟨u, rfl, rx⟩ := vals1 r
  cases rx
  rcases h with ⟨hq, q⟩ | ⟨hq, q⟩
  · obtain ⟨its, r', pl, hz⟩ := I.list hq
    refine call_tuple_list pl.isList (fun h' kp => ?_) (by rw [List.size_toArray, ← r'.length]; exact hz)
    have J : Inv X pins sg H { s with heap := h' } := I.kept (t' := s.toks) kp
    exact ⟨.ref _, _, tup_laid J r' hz, rfl, q _ _ (J.hok.fresh (Nat.le_refl _)) rfl⟩
  · obtain ⟨its, r', pl, hz⟩ := I.tuple hq
    exact call_tuple_same pl ⟨V.ref p, H, I, rfl, q⟩
def rRepF (K : PySem.W.Frag) : R2 := fun x y H Q => ∃ l k xs, x = .ref l ∧ y = .int k ∧ SqT K H l xs ∧ xs ≠ [] ∧ 2 ≤ k ∧ k ≤ 1000000 ∧ xs.length * k.toNat ≤ 1000000 ∧ ∀ (p : Addr) (o : Obj), H p = none → o.dict = none → Q (.ref p) (upd H p (.frz o (.tup (List.replicate k.toNat xs).flatten)))
theorem op_repF : OpR X (binaryOp .Mult) (rRepF X.K) := by
  rintro pins s sg H x y v u Q I rx ry ⟨l, k, xs, rfl, rfl, hT, hne, h1, h2, hz, q⟩
  cases rx
  obtain ⟨t, rfl⟩ := ry
  obtain ⟨its, r, ⟨⟨cls, dd, data, sl⟩, ho, hc, n, hd⟩, hs⟩ := I.tuple hT
  dsimp only at hc hd
  subst hc hd
  have hle := r.length
  have hk : ((k.toNat : Nat) : Int) = k := Int.toNat_of_nonneg (by omega)
  have pos : 0 < xs.length := List.length_pos_iff.mpr hne
  have hi : its.toArray.isEmpty = false := by
    cases its with
    | nil => rw [hle] at pos; exact absurd pos (Nat.lt_irrefl 0)
    | cons _ _ => rfl
  have sz : its.toArray.size = xs.length := (List.size_toArray (as := its)).trans hle.symm
  have hm : ((its.toArray.size : Nat) : Int) * k ≤ 1000000 := by
    rw [sz, ← hk, ← Int.natCast_mul]
    exact Int.ofNat_le.mpr hz
  have fl : (List.replicate k.toNat its).flatten.length ≤ 1000000 := by
    rw [PyProof.Rows.lm_len_rep_flat, ← hle, Nat.mul_comm]
    exact hz
  have c0 : (decide (k < -(2 ^ 63)) || decide (k ≥ 2 ^ 63)) = false := Bool.or_eq_false_iff.mpr ⟨decide_eq_false (by omega), decide_eq_false (by omega)⟩
  have c1 : (its.toArray.isEmpty || k == 1) = false := Bool.or_eq_false_iff.mpr ⟨hi, beq_eq_false_iff_ne.mpr (by omega)⟩
  have c2 : (decide (k ≤ 0) || its.toArray.isEmpty) = false := Bool.or_eq_false_iff.mpr ⟨decide_eq_false (by omega), hi⟩
  have c4 : Builtin.Tuple.tupleTooMany (((its.toArray.size : Nat) : Int) * k) = false := by
    rw [Builtin.Tuple.tupleTooMany, sizeLine_eq]
    exact decide_eq_false (by omega)
  refine wpAny_binaryOp_repeat_ref (T := "tuple") (U := "int") (by decide) ⟨_, ho, rfl⟩ (fun s' => typeIs_int s' k t) noFill_tuple_mul F.fills_int_mul F.slot_int_rmul repeat_tuple F.slot_int_index.lookup ?_
  refine call_meets F.slot_int_rmul (typeIs_int s k t) F.entry_int_rmul (F.args_int_rmul_2 _ _) (int_rmul_tuple k t l its.toArray n dd sl) ⟨ho, rfl, ⟨_, ho, rfl⟩, ?_⟩
  refine call_meets F.slot_tuple_mul ⟨_, ho, rfl⟩ F.entry_tuple_mul (F.args_tuple_mul_2 _ _) (tuple_mulW l its.toArray n dd sl k t c0 c1 c2 (by omega) c4 (by rw [size_rep, List.size_toArray, sizeLine_eq]; omega)) ⟨ho, ?_⟩
  rw [size_rep]
  exact ⟨.ref _, _, tup_laid I (r.rep k.toNat) (by rw [PyProof.Rows.lm_len_rep_flat, Nat.mul_comm, sizeLine_eq]; omega), rfl, q _ _ (I.hok.fresh (Nat.le_refl _)) rfl⟩

theorem tup_at {K : PySem.W.Frag} {F H : Hp} {m : Am} {st : Store} {v : V} {ds : List D} (S : Sto K F m st H) (r : Rp K F m v (.tup ds)) : ∃ a vs, v = .ref a ∧ SqT K H a vs ∧ Rps K F m vs ds := by
  cases r with
  | tup h1 h2 => exact ⟨_, _, rfl, sqt_mono S.sub h1.sqt, h2⟩
theorem rps_nil_iff {K : PySem.W.Frag} {F : Hp} {m : Am} {vs : List V} {ds : List D} (r : Rps K F m vs ds) : vs = [] ↔ ds = [] := by
  cases r with
  | nil => exact ⟨fun _ => rfl, fun _ => rfl⟩
  | cons _ _ => exact ⟨(nomatch ·), (nomatch ·)⟩
theorem rps_flat {K : PySem.W.Frag} {F : Hp} {m : Am} {vs : List V} {ds : List D} (r : Rps K F m vs ds) : ∀ n, Rps K F m (List.replicate n vs).flatten (List.replicate n ds).flatten
  | 0 => .nil
  | n + 1 => by
    rw [List.replicate_succ, List.replicate_succ, List.flatten_cons, List.flatten_cons]
    exact r.append (rps_flat r n)
theorem fop_or {g : Value → Value → Sem Value} {r r' : R2} {f : D → D → Store → R D} (h : OpR X g r) (h' : OpR X g r') (s : SmOp X.K X.mg W (fun x y H Q => r x y H Q ∨ r' x y H Q) f) : FOp X W g f := ⟨_, h.or h', s⟩

/-- a pure answer on ints -/
theorem fo_add : FOp X W (binaryOp .Add) dAdd := by
  refine fop_or (op_add.or op_add_str) (op_catF.or op_cat) fun sg H F m st x y a b Q S ra rb P => ?_
  unfold dAdd at P
  split at P
  · cases ra; cases rb
    exact .inl (.inl ⟨_, _, rfl, rfl, P.ok S (.int _)⟩)
  · cases ra; cases rb
    obtain ⟨c, P⟩ := post_ite P
    exact .inl (.inr ⟨_, _, rfl, rfl, sl16 c, P.ok S (.str _)⟩)
  · obtain ⟨c, P⟩ := post_ite P
    obtain ⟨a1, vs, rfl, h1, r1⟩ := tup_at S ra
    obtain ⟨b1, ws, rfl, h2, r2⟩ := tup_at S rb
    refine .inr (.inl ⟨a1, b1, vs, ws, rfl, rfl, h1, h2, sl16 (by rw [r1.length, r2.length]; exact c), fun e => ?_, fun e1 e2 => ?_, fun _ _ p o hp ho => post_tup P S (r1.append r2) hp ho⟩)
    · rw [(rps_nil_iff r1).mp e] at P
      exact P.ok S rb
    · rw [(rps_nil_iff r2).mp e2, List.append_nil] at P
      exact P.ok S ra
  · split at P
    · rename_i xs ys h1 h2
      obtain ⟨c, P⟩ := post_ite P
      obtain ⟨a1, vs, rfl, h3, r1⟩ := lstOf_at S ra h1
      obtain ⟨b1, ws, rfl, h4, r2⟩ := lstOf_at S rb h2
      exact .inr (.inr ⟨a1, b1, vs, ws, rfl, rfl, h3, h4, sl16 (by rw [r1.length, r2.length]; exact c), fun p hp => post_lst P S (r1.append r2) hp⟩)
    · exact False.elim P
theorem fo_sub : FOp X W (binaryOp .Sub) dSub := by
  refine ⟨_, op_sub, fun sg H F m st x y a b Q S ra rb P => ?_⟩
  unfold dSub at P
  split at P
  · cases ra; cases rb
    exact ⟨_, _, rfl, rfl, P.ok S (.int _)⟩
  · exact False.elim P
theorem fo_mul : FOp X W (binaryOp .Mult) dMul := by
  refine fop_or op_mul (op_repF.or op_rep) fun sg H F m st x y a b Q S ra rb P => ?_
  unfold dMul at P
  split at P
  · cases ra; cases rb
    obtain ⟨c, P⟩ := post_ite P
    rw [Bool.or_eq_true] at c
    exact .inl ⟨_, _, rfl, rfl, c.imp tiny_iff tiny_iff, P.ok S (.int _)⟩
  · obtain ⟨⟨c1, c2, c3, c4⟩, P⟩ := post_ite P
    cases rb
    obtain ⟨a1, vs, rfl, h1, r1⟩ := tup_at S ra
    exact .inr (.inl ⟨a1, _, vs, rfl, rfl, h1, fun e => c4 ((rps_nil_iff r1).mp e), c2, c3, by rw [r1.length]; exact c1, fun p o hp ho => post_tup P S (rps_flat r1 _) hp ho⟩)
  · cases rb
    split at P
    · rename_i xs h1
      obtain ⟨⟨c1, c2, c3⟩, P⟩ := post_ite P
      obtain ⟨a1, vs, rfl, h3, r1⟩ := lstOf_at S ra h1
      exact .inr (.inr ⟨a1, _, vs, rfl, rfl, h3, by omega, by omega, sl16 (by rw [r1.length]; exact c1), fun p hp => post_lst P S (rps_flat r1 _) hp⟩)
    · exact False.elim P
  · exact False.elim P
theorem fo_fdiv : FOp X W (binaryOp .FloorDiv) dFdiv := by
  refine fop_or op_fdiv op_fdivW fun sg H F m st x y a b Q S ra rb P => ?_
  unfold dFdiv at P
  split at P
  · cases ra; cases rb
    split at P
    · rename_i c
      exact .inl ⟨_, _, rfl, rfl, c, P.ok S (.int _)⟩
    · obtain ⟨⟨c1, c2⟩, P⟩ := post_ite P
      exact .inr ⟨_, _, rfl, rfl, wide_div (b := 120) c1 (by omega) (by decide) (by decide), P.ok S (.int _)⟩
  · exact False.elim P
theorem fo_mod : FOp X W (binaryOp .Mod) dMod := by
  refine ⟨_, op_mod, fun sg H F m st x y a b Q S ra rb P => ?_⟩
  unfold dMod at P
  split at P
  · cases ra; cases rb
    obtain ⟨c, P⟩ := post_ite P
    exact ⟨_, _, rfl, rfl, c, P.ok S (.int _)⟩
  · exact False.elim P
theorem fo_pow : FOp X W (binaryOp .Pow) dPow := by
  refine ⟨_, op_pow, fun sg H F m st x y a b Q S ra rb P => ?_⟩
  unfold dPow at P
  split at P
  · cases ra; cases rb
    obtain ⟨⟨c1, c2, c3⟩, P⟩ := post_ite P
    exact ⟨_, _, rfl, rfl, ⟨c1, by omega, by have := tiny_iff c3; omega⟩, P.ok S (.int _)⟩
  · exact False.elim P
theorem fu_neg : FUn X W (unaryOp .USub) dNeg := by
  refine ⟨_, un_neg, fun sg H F m st x a Q S ra P => ?_⟩
  unfold dNeg at P
  split at P
  · cases ra
    exact ⟨_, rfl, P.ok S (.int _)⟩
  · exact False.elim P
end
end Fx

set_option Elab.async false
set_option linter.all false
set_option maxRecDepth 100000
set_option maxHeartbeats 4000000
/-! Fx: comparisons, items, calls of built-in functions, methods -/
namespace Fx
open PySem PySem.Spec PyProof.Rows L2

/-! ### data as the library's data -/
mutual
def py : D → Option PyData
  | .non => some .none
  | .bl b => some (.bool b)
  | .int i => some (.int i)
  | .str x => some (.str x)
  | .tup ds => match pys ds with
    | some l => some (.tuple l)
    | none => none
  | .lst ds => match pys ds with
    | some l => some (.list l)
    | none => none
  | .rol ds => match pys ds with
    | some l => some (.list l)
    | none => none
  | .own _ => none
  | .glo _ => none
def pys : List D → Option (List PyData)
  | [] => some []
  | d :: ds => match py d, pys ds with
    | some x, some xs => some (x :: xs)
    | _, _ => none
end
def pyOf (d : D) (st : Store) : Option PyData := match d with
  | .own k => match st[k]? with
    | some (.lst ds) => match pys ds with
      | some l => some (.list l)
      | none => none
    | _ => none
  | d => py d
section
variable {K : PySem.W.Frag} {F H : Hp} {m : Am} {st : Store}
mutual
theorem dp_of (S : Sto K F m st H) : ∀ (d : D) (v : V) (p : PyData), Rp K F m v d → py d = some p → Dp K H v p
  | .non, _, p, r, e => by cases r; cases e; exact .non
  | .bl b, _, p, r, e => by cases r; cases e; exact .bl b
  | .int i, _, p, r, e => by cases r; cases e; exact .int i
  | .str x, _, p, r, e => by cases r; cases e; exact .str x
  | .tup ds, _, p, r, e => by
    obtain ⟨a, vs, rfl, h1, h2⟩ := tup_at S r
    unfold py at e
    split at e
    · rename_i l hl
      cases e
      exact .tup h1 (dps_of S ds vs l h2 hl)
    · cases e
  | .lst ds, _, p, r, e => by
    obtain ⟨a, vs, rfl, h1, h2⟩ := rolOf_at S r (show rolOf (.lst ds) st = some ds from rfl)
    unfold py at e
    split at e
    · rename_i l hl
      cases e
      exact .lst h1 (dps_of S ds vs l h2 hl)
    · cases e
  | .rol ds, _, p, r, e => by
    obtain ⟨a, vs, rfl, h1, h2⟩ := rolOf_at S r (show rolOf (.rol ds) st = some ds from rfl)
    unfold py at e
    split at e
    · rename_i l hl
      cases e
      exact .lst h1 (dps_of S ds vs l h2 hl)
    · cases e
  | .own _, _, p, r, e => by cases e
  | .glo _, _, p, r, e => by cases e
theorem dps_of (S : Sto K F m st H) : ∀ (ds : List D) (vs : List V) (l : List PyData), Rps K F m vs ds → pys ds = some l → DpAll K H vs l
  | [], _, l, r, e => by cases r; cases e; exact .nil
  | d :: ds, _, l, r, e => by
    cases r with
    | cons r1 r2 =>
      unfold pys at e
      split at e
      · rename_i x xs h1 h2
        cases e
        exact .cons (dp_of S d _ x r1 h1) (dps_of S ds _ xs r2 h2)
      · cases e
end
theorem dpOf (S : Sto K F m st H) {d : D} {v : V} {p : PyData} (r : Rp K F m v d) (e : pyOf d st = some p) : Dp K H v p := by
  unfold pyOf at e
  split at e
  · rename_i k
    split at e
    · rename_i ds hk
      split at e
      · rename_i l hl
        cases e
        obtain ⟨a, vs, rfl, h1, h2⟩ := lstOf_at S r (show lstOf (.own k) st = some ds by simp [lstOf, hk])
        exact .lst (.inl (.inl h1)) (dps_of S ds vs l h2 hl)
      · cases e
    · cases e
  · exact dp_of S _ _ _ r e
end

def dEq (a b : D) (st : Store) : R D := match a, b with
  | .int i, .int j => .ok (.bl (decide (i = j))) st
  | .str x, .str y => .ok (.bl (decide (x = y))) st
  | .bl x, .bl y => .ok (.bl (decide (x = y))) st
  | a, b => match pyOf a st, pyOf b st with
    | some x, some y => if SeqAt.shaped x = true ∧ SeqAt.shaped y = true then .ok (.bl (PyData.eqv x y)) st else .bad
    | _, _ => .bad
def dNe (a b : D) (st : Store) : R D := match a, b with
  | .int i, .int j => .ok (.bl (!decide (i = j))) st
  | .str x, .str y => .ok (.bl (!decide (x = y))) st
  | .bl x, .bl y => .ok (.bl (!decide (x = y))) st
  | a, b => match pyOf a st, pyOf b st with
    | some x, some y => if SeqAt.shaped x = true ∧ SeqAt.shaped y = true then .ok (.bl (!PyData.eqv x y)) st else .bad
    | _, _ => .bad
@[simp] def dLt (a b : D) (st : Store) : R D := match a, b with
  | .int i, .int j => .ok (.bl (decide (i < j))) st
  | _, _ => .bad
@[simp] def dLe (a b : D) (st : Store) : R D := match a, b with
  | .int i, .int j => .ok (.bl (decide (i ≤ j))) st
  | _, _ => .bad
@[simp] def dGt (a b : D) (st : Store) : R D := match a, b with
  | .int i, .int j => .ok (.bl (decide (j < i))) st
  | _, _ => .bad
@[simp] def dGe (a b : D) (st : Store) : R D := match a, b with
  | .int i, .int j => .ok (.bl (decide (j ≤ i))) st
  | _, _ => .bad
def isNon : D → Bool
  | .non => true
  | _ => false
def dIs (a b : D) (st : Store) : R D := if isNon b = true then .ok (.bl (isNon a)) st else .bad
def dIsNot (a b : D) (st : Store) : R D := if isNon b = true then .ok (.bl (!isNon a)) st else .bad
/-- a list's or a tuple's items -/
@[simp] def seqOf (d : D) (st : Store) : Option (List D) := match d with
  | .tup ds => some ds
  | d => rolOf d st
def flatD : D → Bool
  | .non => true
  | .bl _ => true
  | .int _ => true
  | .str _ => true
  | _ => false
def eqF : D → D → Bool
  | .non, .non => true
  | .bl a, .bl b => a == b
  | .bl a, .int b => (if a then 1 else 0) == b
  | .int a, .bl b => a == (if b then 1 else 0)
  | .int a, .int b => a == b
  | .str a, .str b => a == b
  | _, _ => false
def inD (x : D) (xs : List D) : Bool := xs.any fun y => eqF y x
def dIn (a b : D) (st : Store) : R D := match seqOf b st with
  | some ds => if flatD a = true ∧ ds.all flatD = true then .ok (.bl (inD a ds)) st else .bad
  | none => .bad
def dNotIn (a b : D) (st : Store) : R D := match seqOf b st with
  | some ds => if flatD a = true ∧ ds.all flatD = true then .ok (.bl (!inD a ds)) st else .bad
  | none => .bad
/-- a[i] of a sequence, a text -/
@[simp] def dIx (a i : D) (st : Store) : R D := match i with
  | .int j => match a with
    | .str z => if z.length ≤ 16777216 then (match atI z.cps.toList j with
      | some c => .ok (.str ⟨#[c]⟩) st
      | none => .bad) else .bad
    | a => match seqOf a st with
      | some ds => match atI ds j with
        | some d => .ok d st
        | none => .bad
      | none => .bad
  | _ => .bad
def dSl (a : D) (lo hi : Option Int) (st : Store) : R D := match a with
  | .str z => if z.length ≤ 16777216 then .ok (.str (cutS z lo hi)) st else .bad
  | .tup ds => .ok (.tup (cutD ds lo hi)) st
  | a => match rolOf a st with
    | some ds => .ok (.own st.length) (st ++ [.lst (cutD ds lo hi)])
    | none => .bad

section
variable {X : Cx} {W : WX}
theorem seqOf_at {K : PySem.W.Frag} {F H : Hp} {m : Am} {st : Store} {v : V} {d : D} {ds : List D} (S : Sto K F m st H) (r : Rp K F m v d) (h : seqOf d st = some ds) : ∃ a vs, v = .ref a ∧ (SqL K H a vs ∨ SqT K H a vs) ∧ Rps K F m vs ds := by
  unfold seqOf at h
  split at h
  · cases h
    obtain ⟨a, vs, e, h1, h2⟩ := tup_at S r
    exact ⟨a, vs, e, .inr h1, h2⟩
  · obtain ⟨a, vs, e, h1, h2⟩ := rolOf_at S r h
    exact ⟨a, vs, e, .inl h1, h2⟩
theorem fop_int {g : Value → Value → Sem Value} {f : Int → Int → Bool} {h : D → D → Store → R D} (ho : OpR X g (rI0 fun i j => .bl (f i j))) (e : ∀ a b st, h a b st = match a, b with
  | .int i, .int j => .ok (.bl (f i j)) st
  | _, _ => .bad) : FOp X W g h := by
  refine ⟨_, ho, fun sg H F m st x y a b Q S ra rb P => ?_⟩
  rw [e] at P
  split at P
  · cases ra; cases rb
    exact ⟨_, _, rfl, rfl, P.ok S (Rp.bl _)⟩
  · exact False.elim P
theorem fo_lt : FOp X W (compareOp .Lt) dLt := fop_int op_lt fun _ _ _ => rfl
theorem fo_le : FOp X W (compareOp .LtE) dLe := fop_int op_le fun _ _ _ => rfl
theorem fo_gt : FOp X W (compareOp .Gt) dGt := fop_int op_gt fun _ _ _ => rfl
theorem fo_ge : FOp X W (compareOp .GtE) dGe := fop_int op_ge fun _ _ _ => rfl
theorem dec_i {i j : Int} : decide (V.int i = V.int j) = decide (i = j) := by
  by_cases h : i = j
  · subst h; rw [decide_eq_true rfl, decide_eq_true rfl]
  · rw [decide_eq_false h, decide_eq_false (fun e => h (V.int.inj e))]
theorem dec_s {i j : Str} : decide (V.str i = V.str j) = decide (i = j) := by
  by_cases h : i = j
  · subst h; rw [decide_eq_true rfl, decide_eq_true rfl]
  · rw [decide_eq_false h, decide_eq_false (fun e => h (V.str.inj e))]
theorem dec_b {i j : Bool} : decide (V.bl i = V.bl j) = decide (i = j) := by
  by_cases h : i = j
  · subst h; rw [decide_eq_true rfl, decide_eq_true rfl]
  · rw [decide_eq_false h, decide_eq_false (fun e => h (V.bl.inj e))]
theorem fo_eq (hu : X.A.units + 64 < cLine) : FOp X W (compareOp .Eq) dEq := by
  refine fop_or op_eq (op_eqD hu) fun sg H F m st x y a b Q S ra rb P => ?_
  unfold dEq at P
  split at P
  · cases ra; cases rb
    exact .inl ⟨rfl, by rw [dec_i]; exact P.ok S (Rp.bl _)⟩
  · cases ra; cases rb
    exact .inl ⟨rfl, by rw [dec_s]; exact P.ok S (Rp.bl _)⟩
  · cases ra; cases rb
    exact .inl ⟨rfl, by rw [dec_b]; exact P.ok S (Rp.bl _)⟩
  · split at P
    · rename_i x1 y1 h1 h2
      obtain ⟨⟨c1, c2⟩, P⟩ := post_ite P
      exact .inr ⟨_, _, dpOf S ra h1, dpOf S rb h2, c1, c2, P.ok S (Rp.bl _)⟩
    · exact False.elim P
theorem fo_ne (hu : X.A.units + 64 < cLine) : FOp X W (compareOp .NotEq) dNe := by
  refine fop_or op_ne (op_neD hu) fun sg H F m st x y a b Q S ra rb P => ?_
  unfold dNe at P
  split at P
  · cases ra; cases rb
    exact .inl ⟨rfl, by rw [dec_i]; exact P.ok S (Rp.bl _)⟩
  · cases ra; cases rb
    exact .inl ⟨rfl, by rw [dec_s]; exact P.ok S (Rp.bl _)⟩
  · cases ra; cases rb
    exact .inl ⟨rfl, by rw [dec_b]; exact P.ok S (Rp.bl _)⟩
  · split at P
    · rename_i x1 y1 h1 h2
      obtain ⟨⟨c1, c2⟩, P⟩ := post_ite P
      exact .inr ⟨_, _, dpOf S ra h1, dpOf S rb h2, c1, c2, P.ok S (Rp.bl _)⟩
    · exact False.elim P
theorem isNon_v {K : PySem.W.Frag} {F : Hp} {m : Am} {v : V} {d : D} (r : Rp K F m v d) : decide (v = .non) = isNon d := by
  cases r <;> rfl
theorem fo_is : FOp X W (compareOp .Is) dIs := by
  refine ⟨_, op_isN, fun sg H F m st x y a b Q S ra rb P => ?_⟩
  unfold dIs at P
  obtain ⟨c, P⟩ := post_ite P
  cases rb <;> first | exact absurd c Bool.false_ne_true | skip
  exact ⟨rfl, by rw [isNon_v ra]; exact P.ok S (Rp.bl _)⟩
theorem fo_isnot : FOp X W (compareOp .IsNot) dIsNot := by
  refine ⟨_, op_notN, fun sg H F m st x y a b Q S ra rb P => ?_⟩
  unfold dIsNot at P
  obtain ⟨c, P⟩ := post_ite P
  cases rb <;> first | exact absurd c Bool.false_ne_true | skip
  exact ⟨rfl, by rw [isNon_v ra]; exact P.ok S (Rp.bl _)⟩
theorem flat_v {K : PySem.W.Frag} {F : Hp} {m : Am} {v : V} {d : D} (r : Rp K F m v d) (f : flatD d = true) : flatV v = true := by
  cases r <;> first | rfl | exact f
theorem flats_v {K : PySem.W.Frag} {F : Hp} {m : Am} : ∀ {vs : List V} {ds : List D}, Rps K F m vs ds → ds.all flatD = true → vs.all flatV = true
  | _, _, .nil, _ => rfl
  | _, _, .cons r t, f => by
    rw [List.all_cons, Bool.and_eq_true] at f ⊢
    exact ⟨flat_v r f.1, flats_v t f.2⟩
theorem eqF_v {K : PySem.W.Frag} {F : Hp} {m : Am} {v w : V} {d e : D} (r : Rp K F m v d) (q : Rp K F m w e) (f : flatD d = true) (g : flatD e = true) : eqV v w = eqF d e := by
  cases r <;> first | (cases q <;> first | rfl | exact absurd g Bool.false_ne_true) | exact absurd f Bool.false_ne_true
theorem inD_v {K : PySem.W.Frag} {F : Hp} {m : Am} {w : V} {e : D} (q : Rp K F m w e) (g : flatD e = true) : ∀ {vs : List V} {ds : List D}, Rps K F m vs ds → ds.all flatD = true → inV w vs = inD e ds
  | _, _, .nil, _ => rfl
  | _, _, .cons r t, f => by
    rw [List.all_cons, Bool.and_eq_true] at f
    show (eqV _ _ || inV w _) = (eqF _ _ || inD e _)
    rw [eqF_v r q f.1 g, inD_v q g t f.2]
theorem fo_in : FOp X W (compareOp .In) dIn := by
  refine ⟨_, op_in_seq, fun sg H F m st x y a b Q S ra rb P => ?_⟩
  unfold dIn at P
  split at P
  · rename_i ds h
    obtain ⟨⟨c1, c2⟩, P⟩ := post_ite P
    obtain ⟨p, vs, rfl, h1, r1⟩ := seqOf_at S rb h
    refine ⟨p, vs, rfl, h1, flat_v ra c1, flats_v r1 c2, ?_⟩
    rw [if_neg Bool.false_ne_true, inD_v ra c1 r1 c2]
    exact P.ok S (Rp.bl _)
  · exact False.elim P
theorem fo_notin : FOp X W (compareOp .NotIn) dNotIn := by
  refine ⟨_, op_notIn_seq, fun sg H F m st x y a b Q S ra rb P => ?_⟩
  unfold dNotIn at P
  split at P
  · rename_i ds h
    obtain ⟨⟨c1, c2⟩, P⟩ := post_ite P
    obtain ⟨p, vs, rfl, h1, r1⟩ := seqOf_at S rb h
    refine ⟨p, vs, rfl, h1, flat_v ra c1, flats_v r1 c2, ?_⟩
    rw [if_pos rfl, inD_v ra c1 r1 c2]
    exact P.ok S (Rp.bl _)
  · exact False.elim P
theorem atI_rps {K : PySem.W.Frag} {F : Hp} {m : Am} {vs : List V} {ds : List D} {j : Int} {d : D} (r : Rps K F m vs ds) (h : atI ds j = some d) : ∃ v, atI vs j = some v ∧ Rp K F m v d := by
  unfold atI at h ⊢
  rw [r.length]
  cases e : ixN ds.length j with
  | none => rw [e] at h; cases h
  | some k =>
    rw [e] at h
    exact r.get' h
theorem fi_ix : FIx X W dIx := by
  refine ⟨_, ix_seq, fun sg H F m st x y a b Q S ra rb P => ?_⟩
  unfold dIx at P
  split at P
  · cases rb
    split at P
    · cases ra
      obtain ⟨c, P⟩ := post_ite P
      split at P
      · rename_i ch hch
        exact .inr (.inr ⟨_, _, ch, rfl, rfl, sl16 c, hch, P.ok S (Rp.str _)⟩)
      · exact False.elim P
    · split at P
      · rename_i ds h
        obtain ⟨p, vs, rfl, h1, r1⟩ := seqOf_at S ra h
        split at P
        · rename_i d hd
          obtain ⟨v, hv, rv⟩ := atI_rps r1 hd
          rcases h1 with h1 | h1
          · exact .inl ⟨p, vs, _, v, rfl, rfl, h1, hv, P.ok S rv⟩
          · exact .inr (.inl ⟨p, vs, _, v, rfl, rfl, h1, hv, P.ok S rv⟩)
        · exact False.elim P
      · exact False.elim P
  · exact False.elim P
theorem cut_rps {K : PySem.W.Frag} {F : Hp} {m : Am} {vs : List V} {ds : List D} (lo hi : Option Int) (r : Rps K F m vs ds) : Rps K F m (cutV vs lo hi) (cutD ds lo hi) := by
  unfold cutV cutD
  rw [r.length]
  exact (r.drop _).take _
theorem fs_slice : FSl X W dSl := by
  refine ⟨_, (sl_tupF.or sl_list).or sl_str, fun sg H F m st x a lo hi Q S ra P => ?_⟩
  unfold dSl at P
  split at P
  · cases ra
    obtain ⟨c, P⟩ := post_ite P
    exact .inr ⟨_, rfl, sl16 c, P.ok S (Rp.str _)⟩
  · rename_i ds0
    obtain ⟨p, vs, rfl, h1, r1⟩ := tup_at S ra
    have rc := cut_rps lo hi r1
    refine .inl (.inl ⟨p, vs, rfl, h1, fun ⟨e1, e2⟩ => ?_, fun _ q o hq ho => post_tup P S rc hq ho⟩)
    have e : cutV vs lo hi = vs := by
      unfold cutV
      rw [e1, e2, List.drop_zero, Nat.sub_zero, List.take_length]

    have ez : cutD ds0 lo hi = ds0 := by
      unfold cutD
      rw [← r1.length, e1, e2, List.drop_zero, Nat.sub_zero, r1.length, List.take_length]
    rw [ez] at P
    exact P.ok S ra
  · split at P
    · rename_i ds h
      obtain ⟨p, vs, rfl, h1, r1⟩ := rolOf_at S ra h
      exact .inl (.inr ⟨p, vs, rfl, h1, fun q hq => post_lst P S (cut_rps lo hi r1) hq⟩)
    · exact False.elim P
end
end Fx

set_option Elab.async false
set_option linter.all false
set_option maxRecDepth 100000
set_option maxHeartbeats 4000000
/-! Fx: calls of built-in functions and types, methods -/
namespace Fx
open PySem PySem.Spec PyProof.Rows L2

def intsOf : List D → Option (List Int)
  | [] => some []
  | .int i :: ds => match intsOf ds with
    | some l => some (i :: l)
    | none => none
  | _ :: _ => none
def blsOf : List D → Option (List Bool)
  | [] => some []
  | .bl i :: ds => match blsOf ds with
    | some l => some (i :: l)
    | none => none
  | _ :: _ => none
theorem intsOf_map : ∀ ns : List Int, intsOf (ns.map D.int) = some ns
  | [] => rfl
  | n :: ns => by show (match intsOf (ns.map D.int) with | some l => some (n :: l) | none => none) = _; rw [intsOf_map ns]
theorem blsOf_map : ∀ ns : List Bool, blsOf (ns.map D.bl) = some ns
  | [] => rfl
  | n :: ns => by show (match blsOf (ns.map D.bl) with | some l => some (n :: l) | none => none) = _; rw [blsOf_map ns]
theorem intsOf_eq : ∀ {ds : List D} {ns : List Int}, intsOf ds = some ns → ds = ns.map D.int
  | [], ns, h => by cases h; rfl
  | .int i :: ds, ns, h => by
    unfold intsOf at h
    split at h
    · rename_i l hl
      cases h
      rw [List.map_cons, intsOf_eq hl]
    · cases h
  | .non :: _, _, h | .bl _ :: _, _, h | .str _ :: _, _, h | .tup _ :: _, _, h | .lst _ :: _, _, h | .rol _ :: _, _, h | .own _ :: _, _, h | .glo _ :: _, _, h => by cases h
theorem blsOf_eq : ∀ {ds : List D} {ns : List Bool}, blsOf ds = some ns → ds = ns.map D.bl
  | [], ns, h => by cases h; rfl
  | .bl i :: ds, ns, h => by
    unfold blsOf at h
    split at h
    · rename_i l hl
      cases h
      rw [List.map_cons, blsOf_eq hl]
    · cases h
  | .non :: _, _, h | .int _ :: _, _, h | .str _ :: _, _, h | .tup _ :: _, _, h | .lst _ :: _, _, h | .rol _ :: _, _, h | .own _ :: _, _, h | .glo _ :: _, _, h => by cases h
theorem rps_bls {K : PySem.W.Frag} {F : Hp} {m : Am} : ∀ {vs : List V} {ns : List Bool}, Rps K F m vs (ns.map D.bl) → vs = ns.map V.bl
  | _, [], .nil => rfl
  | _, n :: ns, .cons r t => by
    cases r
    rw [List.map_cons, rps_bls t]

def maxI (x : Int) (xs : List Int) : Int := xs.foldl (fun a y => if a < y then y else a) x
def minI (x : Int) (xs : List Int) : Int := xs.foldl (fun a y => if y < a then y else a) x
/-! ### functions on data -/
@[simp] def cLen (ds : List D) (st : Store) : R D := match ds with
  | [.str z] => if z.length ≤ 16777216 then .ok (.int z.length) st else .bad
  | [a] => match seqOf a st with
    | some l => .ok (.int l.length) st
    | none => .bad
  | _ => .bad
@[simp] def cAbs (ds : List D) (st : Store) : R D := match ds with
  | [.int i] => .ok (.int (if i < 0 then -i else i)) st
  | _ => .bad
@[simp] def cInt (ds : List D) (st : Store) : R D := match ds with
  | [.int i] => .ok (.int i) st
  | [.bl b] => .ok (.int (if b then 1 else 0)) st
  | _ => .bad
@[simp] def cMax (ds : List D) (st : Store) : R D := match ds with
  | [.int i, .int j] => .ok (.int (if j > i then j else i)) st
  | [a] => match seqOf a st with
    | some l => match intsOf l with
      | some (x :: xs) => .ok (.int (maxI x xs)) st
      | _ => .bad
    | none => .bad
  | _ => .bad
@[simp] def cMin (ds : List D) (st : Store) : R D := match ds with
  | [.int i, .int j] => .ok (.int (if j < i then j else i)) st
  | [a] => match seqOf a st with
    | some l => match intsOf l with
      | some (x :: xs) => .ok (.int (minI x xs)) st
      | _ => .bad
    | none => .bad
  | _ => .bad
def cAll (ds : List D) (st : Store) : R D := match ds with
  | [a] => match rolOf a st with
    | some l => match blsOf l with
      | some bs => .ok (.bl (bs.all id)) st
      | none => .bad
    | none => .bad
  | _ => .bad
def cAny (ds : List D) (st : Store) : R D := match ds with
  | [a] => match rolOf a st with
    | some l => match blsOf l with
      | some bs => .ok (.bl (bs.any id)) st
      | none => .bad
    | none => .bad
  | _ => .bad
def cSum (ds : List D) (st : Store) : R D := match ds with
  | [a] => match rolOf a st with
    | some l => match intsOf l with
      | some ns => .ok (.int ns.sum) st
      | none => .bad
    | none => .bad
  | _ => .bad
def cList (ds : List D) (st : Store) : R D := match ds with
  | [a] => match seqOf a st with
    | some l => .ok (.own st.length) (st ++ [.lst l])
    | none => .bad
  | _ => .bad
def cTuple (ds : List D) (st : Store) : R D := match ds with
  | [.tup l] => .ok (.tup l) st
  | [a] => match rolOf a st with
    | some l => .ok (.tup l) st
    | none => .bad
  | _ => .bad
def cStr (ds : List D) (st : Store) : R D := match ds with
  | [.int i] => if i.natAbs.log2 < 1920 then .ok (.str (toString i : String)) st else .bad
  | _ => .bad
/-- the name of a datum's type -/
@[simp] def tyOf (d : D) (st : Store) : Option String := match d with
  | .non => some "NoneType"
  | .bl _ => some "bool"
  | .int _ => some "int"
  | .str _ => some "str"
  | .tup _ => some "tuple"
  | .lst _ => some "list"
  | .rol _ => some "list"
  | .own k => match st[k]? with
    | some (.lst _) => some "list"
    | some (.dic _) => some "dict"
    | none => none
  | .glo _ => none
/-- isinstance of one of the six kinds -/
@[simp] def isTy (t T : String) : Bool := t == T || (t == "bool" && T == "int")
@[simp] def cIsi (T : String) (d : D) (st : Store) : R D := match tyOf d st with
  | some t => .ok (.bl (isTy t T)) st
  | none => .bad

/-! ### methods -/
def mApp (x : D) (ds : List D) (st : Store) : R D := match x, ds with
  | .own k, [d] => match st[k]? with
    | some (.lst l) => if l.length < 16777216 then .ok .non (st.set k (.lst (l ++ [d]))) else .bad
    | _ => .bad
  | _, _ => .bad
def mPop (x : D) (ds : List D) (st : Store) : R D := match x, ds with
  | .own k, [] => match st[k]? with
    | some (.lst l) => match l.getLast? with
      | some d => .ok d (st.set k (.lst l.dropLast))
      | none => .bad
    | _ => .bad
  | _, _ => .bad
def mPopAt (x : D) (ds : List D) (st : Store) : R D := match x, ds with
  | .own k, [.int i] => match st[k]? with
    | some (.lst l) => if 0 ≤ i ∧ i < 16777216 then (match l[i.toNat]? with
      | some d => .ok d (st.set k (.lst (l.eraseIdx i.toNat)))
      | none => .bad) else .bad
    | _ => .bad
  | _, _ => .bad
def mIns (x : D) (ds : List D) (st : Store) : R D := match x, ds with
  | .own k, [.int i, d] => match st[k]? with
    | some (.lst l) => if 0 ≤ i ∧ i < 16777216 ∧ l.length < 16777216 then .ok .non (st.set k (.lst (l.take i.toNat ++ [d] ++ l.drop i.toNat))) else .bad
    | _ => .bad
  | _, _ => .bad
def mRev (x : D) (ds : List D) (st : Store) : R D := match x, ds with
  | .own k, [] => match st[k]? with
    | some (.lst l) => .ok .non (st.set k (.lst l.reverse))
    | _ => .bad
  | _, _ => .bad
def mExt (x : D) (ds : List D) (st : Store) : R D := match x, ds with
  | .own k, [d] => match st[k]?, lstOf d st with
    | some (.lst l), some l2 => if l.length + l2.length ≤ 16777216 then .ok .non (st.set k (.lst (l ++ l2))) else .bad
    | _, _ => .bad
  | _, _ => .bad
/-- the first place of an equal item -/
def ixOf (x : D) : List D → Option Nat
  | [] => none
  | y :: ys => if eqF y x then some 0 else match ixOf x ys with
    | some j => some (j + 1)
    | none => none
def mIndex (x : D) (ds : List D) (st : Store) : R D := match ds with
  | [d] => match rolOf x st with
    | some l => if flatD d = true ∧ l.all flatD = true then (match ixOf d l with
      | some j => .ok (.int (j : Nat)) st
      | none => .bad) else .bad
    | none => .bad
  | _ => .bad
def mIndexT (x : D) (ds : List D) (st : Store) : R D := match x, ds with
  | .tup l, [d] => if flatD d = true ∧ l.all flatD = true then (match ixOf d l with
      | some j => .ok (.int (j : Nat)) st
      | none => .bad) else .bad
  | _, _ => .bad
def mCount (x : D) (ds : List D) (st : Store) : R D := match ds with
  | [d] => match rolOf x st with
    | some l => if flatD d = true ∧ l.all flatD = true then .ok (.int (l.countP (fun y => eqF y d) : Nat)) st else .bad
    | none => .bad
  | _ => .bad
def mCountT (x : D) (ds : List D) (st : Store) : R D := match x, ds with
  | .tup l, [d] => if flatD d = true ∧ l.all flatD = true then .ok (.int (l.countP (fun y => eqF y d) : Nat)) st else .bad
  | _, _ => .bad

section
variable {X : Cx} {W : WX}
theorem fcl_or {g : Value} {r r' : List V → Hp → VK → Prop} {f : List D → Store → R D} (h : CallR X g r) (h' : CallR X g r') (s : SmC X.K X.mg W (fun xs H Q => r xs H Q ∨ r' xs H Q) f) : FCl X W g f := ⟨_, h.or h', s⟩
theorem rps1 {K : PySem.W.Frag} {F : Hp} {m : Am} {xs : List V} {d : D} (r : Rps K F m xs [d]) : ∃ x, xs = [x] ∧ Rp K F m x d := by
  cases r with
  | cons r t => cases t; exact ⟨_, rfl, r⟩
theorem rps2 {K : PySem.W.Frag} {F : Hp} {m : Am} {xs : List V} {d e : D} (r : Rps K F m xs [d, e]) : ∃ x y, xs = [x, y] ∧ Rp K F m x d ∧ Rp K F m y e := by
  cases r with
  | cons r t =>
    obtain ⟨y, rfl, q⟩ := rps1 t
    exact ⟨_, y, rfl, r, q⟩
theorem fc_len : FCl X W (.builtin "len") cLen := by
  refine fcl_or call_len_seq call_len_str fun sg H F m st xs ds Q S r P => ?_
  unfold cLen at P
  split at P
  · obtain ⟨x, rfl, rx⟩ := rps1 r
    cases rx
    obtain ⟨c, P⟩ := post_ite P
    exact .inr ⟨_, rfl, sl16 c, P.ok S (Rp.int _)⟩
  · obtain ⟨x, rfl, rx⟩ := rps1 r
    split at P
    · rename_i l hl
      obtain ⟨a, vs, rfl, h1, r1⟩ := seqOf_at S rx hl
      exact .inl ⟨a, vs, rfl, h1, by rw [r1.length]; exact P.ok S (Rp.int _)⟩
    · exact False.elim P
  · exact False.elim P
theorem fc_abs : FCl X W (.builtin "abs") cAbs := by
  refine ⟨_, call_abs, fun sg H F m st xs ds Q S r P => ?_⟩
  unfold cAbs at P
  split at P
  · obtain ⟨x, rfl, rx⟩ := rps1 r
    cases rx
    exact ⟨_, rfl, P.ok S (Rp.int _)⟩
  · exact False.elim P
theorem fc_int : FCl X W (.type "int") cInt := by
  refine ⟨_, call_int1, fun sg H F m st xs ds Q S r P => ?_⟩
  unfold cInt at P
  split at P
  · obtain ⟨x, rfl, rx⟩ := rps1 r
    cases rx
    exact .inl ⟨_, rfl, P.ok S (Rp.int _)⟩
  · obtain ⟨x, rfl, rx⟩ := rps1 r
    cases rx
    exact .inr ⟨_, rfl, P.ok S (Rp.int _)⟩
  · exact False.elim P
/-- max, min of a list or a tuple of ints -/
def rMM (K : PySem.W.Frag) (f : Int → List Int → Int) : List V → Hp → VK → Prop := fun vs H Q => ∃ (a : Addr) (x : Int) (xs : List Int), vs = [V.ref a] ∧ (SqL K H a ((x :: xs).map V.int) ∨ SqT K H a ((x :: xs).map V.int)) ∧ Q (.int (f x xs)) H
theorem holdAll_ints {h : Heap} : ∀ {us : List Value} {ns : List Int}, IntsAre us ns → PySem.W.HoldAll h us ns
  | _, _, .nil => ⟨_, ReadsAll.nil⟩
  | _, _, .cons n t r => by
    obtain ⟨as, q⟩ := holdAll_ints (h := h) r
    exact ⟨_, ReadsAll.cons (Reads.int n t) q⟩
theorem holds_int {h : Heap} {v : Value} {n : Int} (q : PySem.W.Holds h v n) : ∃ t, v = .int n t := by
  obtain ⟨as, q⟩ := q
  cases q
  exact ⟨_, rfl⟩
theorem istup_of {h : Heap} {a : Addr} {its : Array Value} (p : IsTup h a its) : h.IsTuple a its := p
theorem cr_maxT (hc : X.calm = true) (hu : X.A.units + 64 < cLine) : CallR X (.builtin "max") (rMM X.K maxI) := by
  rintro pins s sg H vs us Q I r ⟨a, x, xs, rfl, hs, q⟩
  have hd : X.A.units + 1 + PySem.W.Datum.depth Int < cLine := by show X.A.units + 1 + 0 < cLine; omega
  rw [Vals.ref1 r]
  rcases hs with hs | hs
  · obtain ⟨its, rv, hl, _⟩ := I.list hs
    refine PySem.W.max_list_datum (I.ok.hd hc) hl.isList (holdAll_ints (by simpa using rv.ints)) hd fun i v h' tk hi hv hk => ?_
    obtain ⟨t, rfl⟩ := holds_int hv
    exact ⟨.int _, H, I.kept hk, ⟨_, rfl⟩, by simpa only [maxI, PySem.W.maxOf, PySem.W.DatumOrd.lt, decide_eq_true_eq] using q⟩
  · obtain ⟨its, rv, hl, _⟩ := I.tuple hs
    refine PySem.W.max_tuple_datum (I.ok.hd hc) (istup_of hl) (holdAll_ints (by simpa using rv.ints)) hd fun i v h' tk hi hv hk => ?_
    obtain ⟨t, rfl⟩ := holds_int hv
    exact ⟨.int _, H, I.kept hk, ⟨_, rfl⟩, by simpa only [maxI, PySem.W.maxOf, PySem.W.DatumOrd.lt, decide_eq_true_eq] using q⟩
theorem cr_minT (hc : X.calm = true) (hu : X.A.units + 64 < cLine) : CallR X (.builtin "min") (rMM X.K minI) := by
  rintro pins s sg H vs us Q I r ⟨a, x, xs, rfl, hs, q⟩
  have hd : X.A.units + 1 + PySem.W.Datum.depth Int < cLine := by show X.A.units + 1 + 0 < cLine; omega
  rw [Vals.ref1 r]
  rcases hs with hs | hs
  · obtain ⟨its, rv, hl, _⟩ := I.list hs
    refine PySem.W.min_list_datum (I.ok.hd hc) hl.isList (holdAll_ints (by simpa using rv.ints)) hd fun i v h' tk hi hv hk => ?_
    obtain ⟨t, rfl⟩ := holds_int hv
    exact ⟨.int _, H, I.kept hk, ⟨_, rfl⟩, by simpa only [minI, PySem.W.minOf, PySem.W.DatumOrd.lt, decide_eq_true_eq] using q⟩
  · obtain ⟨its, rv, hl, _⟩ := I.tuple hs
    refine PySem.W.min_tuple_datum (I.ok.hd hc) (istup_of hl) (holdAll_ints (by simpa using rv.ints)) hd fun i v h' tk hi hv hk => ?_
    obtain ⟨t, rfl⟩ := holds_int hv
    exact ⟨.int _, H, I.kept hk, ⟨_, rfl⟩, by simpa only [minI, PySem.W.minOf, PySem.W.DatumOrd.lt, decide_eq_true_eq] using q⟩
theorem seq_ints {K : PySem.W.Frag} {F H : Hp} {m : Am} {st : Store} {v : V} {d : D} {l : List D} {ns : List Int} (S : Sto K F m st H) (r : Rp K F m v d) (h : seqOf d st = some l) (e : intsOf l = some ns) : ∃ a, v = .ref a ∧ (SqL K H a (ns.map V.int) ∨ SqT K H a (ns.map V.int)) := by
  obtain ⟨a, vs, rfl, h1, r1⟩ := seqOf_at S r h
  rw [intsOf_eq e] at r1
  exact ⟨a, rfl, r1.ints ▸ h1⟩
theorem fc_max (hc : X.calm = true) (hu : X.A.units + 64 < cLine) : FCl X W (.builtin "max") cMax := by
  refine fcl_or (call_max2 hc) (cr_maxT hc hu) fun sg H F m st xs ds Q S r P => ?_
  unfold cMax at P
  split at P
  · obtain ⟨x, y, rfl, rx, ry⟩ := rps2 r
    cases rx; cases ry
    exact .inl ⟨_, _, rfl, P.ok S (Rp.int _)⟩
  · obtain ⟨x, rfl, rx⟩ := rps1 r
    split at P
    · rename_i l hl
      split at P
      · rename_i y ys hy
        obtain ⟨a, rfl, h1⟩ := seq_ints S rx hl hy
        exact .inr ⟨a, y, ys, rfl, h1, P.ok S (Rp.int _)⟩
      · exact False.elim P
    · exact False.elim P
  · exact False.elim P
theorem fc_min (hc : X.calm = true) (hu : X.A.units + 64 < cLine) : FCl X W (.builtin "min") cMin := by
  refine fcl_or (call_min2 hc) (cr_minT hc hu) fun sg H F m st xs ds Q S r P => ?_
  unfold cMin at P
  split at P
  · obtain ⟨x, y, rfl, rx, ry⟩ := rps2 r
    cases rx; cases ry
    exact .inl ⟨_, _, rfl, P.ok S (Rp.int _)⟩
  · obtain ⟨x, rfl, rx⟩ := rps1 r
    split at P
    · rename_i l hl
      split at P
      · rename_i y ys hy
        obtain ⟨a, rfl, h1⟩ := seq_ints S rx hl hy
        exact .inr ⟨a, y, ys, rfl, h1, P.ok S (Rp.int _)⟩
      · exact False.elim P
    · exact False.elim P
  · exact False.elim P
theorem rol_bls {K : PySem.W.Frag} {F H : Hp} {m : Am} {st : Store} {v : V} {d : D} {l : List D} {ns : List Bool} (S : Sto K F m st H) (r : Rp K F m v d) (h : rolOf d st = some l) (e : blsOf l = some ns) : ∃ a, v = .ref a ∧ SqL K H a (ns.map V.bl) := by
  obtain ⟨a, vs, rfl, h1, r1⟩ := rolOf_at S r h
  rw [blsOf_eq e] at r1
  exact ⟨a, rfl, rps_bls r1 ▸ h1⟩
theorem fc_all (hc : X.calm = true) : FCl X W (.builtin "all") cAll := by
  refine ⟨_, cr_all hc, fun sg H F m st xs ds Q S r P => ?_⟩
  unfold cAll at P
  split at P
  · obtain ⟨x, rfl, rx⟩ := rps1 r
    split at P
    · rename_i l hl
      split at P
      · rename_i bs hb
        obtain ⟨a, rfl, h1⟩ := rol_bls S rx hl hb
        exact ⟨a, bs, rfl, h1, P.ok S (Rp.bl _)⟩
      · exact False.elim P
    · exact False.elim P
  · exact False.elim P
theorem fc_any (hc : X.calm = true) : FCl X W (.builtin "any") cAny := by
  refine ⟨_, cr_any hc, fun sg H F m st xs ds Q S r P => ?_⟩
  unfold cAny at P
  split at P
  · obtain ⟨x, rfl, rx⟩ := rps1 r
    split at P
    · rename_i l hl
      split at P
      · rename_i bs hb
        obtain ⟨a, rfl, h1⟩ := rol_bls S rx hl hb
        exact ⟨a, bs, rfl, h1, P.ok S (Rp.bl _)⟩
      · exact False.elim P
    · exact False.elim P
  · exact False.elim P
theorem fc_sum (hc : X.calm = true) : FCl X W (.builtin "sum") cSum := by
  refine ⟨_, cr_sum hc, fun sg H F m st xs ds Q S r P => ?_⟩
  unfold cSum at P
  split at P
  · obtain ⟨x, rfl, rx⟩ := rps1 r
    split at P
    · rename_i l hl
      split at P
      · rename_i ns hb
        obtain ⟨a, vs, rfl, h1, r1⟩ := rolOf_at S rx hl
        rw [intsOf_eq hb] at r1
        exact ⟨a, ns, rfl, r1.ints ▸ h1, P.ok S (Rp.int _)⟩
      · exact False.elim P
    · exact False.elim P
  · exact False.elim P
theorem fc_list : FCl X W (.type "list") cList := by
  refine ⟨_, call_list_of, fun sg H F m st xs ds Q S r P => ?_⟩
  unfold cList at P
  split at P
  · obtain ⟨x, rfl, rx⟩ := rps1 r
    split at P
    · rename_i l hl
      obtain ⟨a, vs, rfl, h1, r1⟩ := seqOf_at S rx hl
      exact ⟨a, vs, rfl, h1, fun p hp => post_lst P S r1 hp⟩
    · exact False.elim P
  · exact False.elim P
theorem fc_tuple : FCl X W (.type "tuple") cTuple := by
  refine ⟨_, call_tupF, fun sg H F m st xs ds Q S r P => ?_⟩
  unfold cTuple at P
  split at P
  · obtain ⟨x, rfl, rx⟩ := rps1 r
    obtain ⟨a, vs, rfl, h1, r1⟩ := tup_at S rx
    exact ⟨a, vs, rfl, .inr ⟨h1, P.ok S rx⟩⟩
  · obtain ⟨x, rfl, rx⟩ := rps1 r
    split at P
    · rename_i l hl
      obtain ⟨a, vs, rfl, h1, r1⟩ := rolOf_at S rx hl
      exact ⟨a, vs, rfl, .inl ⟨h1, fun p o hp ho => post_tup P S r1 hp ho⟩⟩
    · exact False.elim P
  · exact False.elim P
theorem fc_str : FCl X W (.type "str") cStr := by
  refine ⟨_, call_str_int, fun sg H F m st xs ds Q S r P => ?_⟩
  unfold cStr at P
  split at P
  · obtain ⟨x, rfl, rx⟩ := rps1 r
    cases rx
    obtain ⟨c, P⟩ := post_ite P
    exact ⟨_, rfl, c, P.ok S (Rp.str _)⟩
  · exact False.elim P
end
end Fx

set_option Elab.async false
set_option linter.all false
set_option maxRecDepth 100000
set_option maxHeartbeats 4000000
/-! Fx: isinstance, methods -/
namespace Fx
open PySem PySem.Spec PyProof.Rows L2

/-! ### isinstance -/
theorem isTy_ok (K : PySem.W.Frag) {t T : String} (ht : t = "NoneType" ∨ t = "bool" ∨ t = "int" ∨ t = "str" ∨ t = "tuple" ∨ t = "list" ∨ t = "dict") (hT : T = "int" ∨ T = "bool" ∨ T = "str" ∨ T = "tuple" ∨ T = "list") :
    PySem.W.kitOne K (.type t) (.type T) = some (isTy t T) := by
  rcases ht with rfl | rfl | rfl | rfl | rfl | rfl | rfl <;> rcases hT with rfl | rfl | rfl | rfl | rfl <;> exact kit_ty (by decide +kernel)
section
variable {K : PySem.W.Frag} {F H : Hp} {m : Am} {st : Store} {v : V} {d : D} {t : String}
theorem tyOf_at (S : Sto K F m st H) (r : Rp K F m v d) (h : tyOf d st = some t) : TyX K H v (.type t) ∧ (t = "NoneType" ∨ t = "bool" ∨ t = "int" ∨ t = "str" ∨ t = "tuple" ∨ t = "list" ∨ t = "dict") := by
  cases r with
  | non => cases h; exact ⟨.base .non, by simp⟩
  | bl b => cases h; exact ⟨.base (.bl b), by simp⟩
  | int i => cases h; exact ⟨.base (.int i), by simp⟩
  | str x => cases h; exact ⟨.base (.str x), by simp⟩
  | tup h1 h2 =>
    cases h
    rcases h1 with ⟨o, h1, _⟩ | ⟨o, its, n, h1, h3, _⟩
    · exact ⟨.fTuple (S.sub _ _ h1), by simp⟩
    · exact ⟨.kTuple h1 h3, by simp⟩
  | lst h1 h2 => cases h; exact ⟨.base (.lst (S.sub _ _ h1)), by simp⟩
  | rol h1 h2 =>
    cases h
    rcases h1 with (h1 | ⟨o, h1⟩) | ⟨o, its, n, h1, h3, _⟩
    · exact ⟨.base (.lst (S.sub _ _ h1)), by simp⟩
    · exact ⟨.base (.frz (S.sub _ _ h1)), by simp⟩
    · exact ⟨.kList h1 h3, by simp⟩
  | @own k a h1 =>
    obtain ⟨c, hc, q⟩ := S.cellAt h1
    cases c with
    | lst ds =>
      obtain ⟨_, vs, h2, _⟩ := q
      simp only [tyOf, hc] at h
      cases h
      exact ⟨.base (.lst h2), by simp⟩
    | dic ds =>
      obtain ⟨_, vs, h2, _⟩ := q
      simp only [tyOf, hc] at h
      cases h
      exact ⟨.base (.dK h2), by simp⟩
  | glo a => cases h
end
section
variable {X : Cx} {W : WX} {e o : Expr} {es : List Expr} {ea eo : EE} {aa : EA} {pos p p2 apos cpos : Pos} {name : Str} {id : String}
theorem pe_tyname {T : String} {x : Str} (hm : X.mg x = none) (hg : Gl X x) (hv : bootBuiltins x = some (.type T)) (hn : x ≠ "__name__" := by decide) (hd : (x == ("__debug__" : Str)) = false := by decide) : PE X (.Name x pos) (tC (.ty T)) := pe_bltn hg hm hv rfl hn hd
theorem fe_isi {T : String} {x : Str} (hT : T = "int" ∨ T = "bool" ∨ T = "str" ∨ T = "tuple" ∨ T = "list") (hm : X.mg "isinstance" = none) (hm2 : X.mg x = none) (ha : FE X W e ea) (hg : Gl X "isinstance" := by rfl) (hg2 : Gl X x := by rfl)
    (hv2 : bootBuiltins x = some (.type T) := by decide +kernel) (hn : x ≠ "__name__" := by decide) (hd : (x == ("__debug__" : Str)) = false := by decide) (hs : starEach [e, .Name x p2] X.env = (false, eval e X.env) :: starEach [.Name x p2] X.env := by rfl) (hpl : (backTo pos (starEach [.Name x p2] X.env)).any (·.1) = false := by rfl) :
    FE X W (.Call (.Name "isinstance" p) [e, .Name x p2] [] pos) (eUn (cIsi T) ea) := by
  obtain ⟨t1, p1, s1⟩ := ha
  refine ⟨_, pe_callB call_isi hg hm (by decide +kernel) (pa_cons p1 (pa_cons (pe_tyname hm2 hg2 hv2 hn hd) pa_nil) hs) (by decide) (by decide) hs hpl, fun sg H F m σ st Q S R P => s1 _ _ _ _ _ _ _ S R (P.bind.imp ?_)⟩
  rintro v H1 ⟨d, st1, F1, m1, x1, S1, r1, P1⟩
  unfold cIsi at P1; dsimp only at P1
  split at P1
  · rename_i t ht
    obtain ⟨ty, hk⟩ := tyOf_at S1 r1 ht
    exact ⟨v, .ty T, .type t, .type T, _, rfl, .ty T, ty, isTy_ok _ hk hT, P1.ok S1 (Rp.bl _)⟩
  · exact False.elim P1
def cIsi2 (T U : String) (d : D) (st : Store) : R D := match tyOf d st with
  | some t => .ok (.bl (isTy t T || isTy t U)) st
  | none => .bad
/-- isinstance(x, (T, U)) -/
theorem fe_isi2 {T U : String} {x y : Str} {k} {p3 p4 : Pos} (hT : T = "int" ∨ T = "bool" ∨ T = "str" ∨ T = "tuple" ∨ T = "list") (hU : U = "int" ∨ U = "bool" ∨ U = "str" ∨ U = "tuple" ∨ U = "list") (hm : X.mg "isinstance" = none) (hm2 : X.mg x = none) (hm3 : X.mg y = none) (ha : FE X W e ea) (hg : Gl X "isinstance" := by rfl) (hg2 : Gl X x := by rfl) (hg3 : Gl X y := by rfl)
    (hv2 : bootBuiltins x = some (.type T) := by decide +kernel) (hv3 : bootBuiltins y = some (.type U) := by decide +kernel) (hn : x ≠ "__name__" := by decide) (hd : (x == ("__debug__" : Str)) = false := by decide) (hn3 : y ≠ "__name__" := by decide) (hd3 : (y == ("__debug__" : Str)) = false := by decide)
    (hs : starEach [e, .Tuple [.Name x p2, .Name y p3] k p4] X.env = (false, eval e X.env) :: starEach [.Tuple [.Name x p2, .Name y p3] k p4] X.env := by rfl) (hpl : (backTo pos (starEach [.Tuple [.Name x p2, .Name y p3] k p4] X.env)).any (·.1) = false := by rfl) :
    FE X W (.Call (.Name "isinstance" p) [e, .Tuple [.Name x p2, .Name y p3] k p4] [] pos) (eUn (cIsi2 T U) ea) := by
  obtain ⟨t1, p1, s1⟩ := ha
  refine ⟨_, pe_callB call_isiT hg hm (by decide +kernel) (pa_cons p1 (pa_cons (pe_tup (pa_cons (pe_tyname hm2 hg2 hv2 hn hd) (pa_cons (pe_tyname hm3 hg3 hv3 hn3 hd3) pa_nil))) pa_nil) hs) (by decide) (by decide) hs hpl, fun sg H F m σ st Q S R P => s1 _ _ _ _ _ _ _ S R (P.bind.imp ?_)⟩
  rintro v H1 ⟨d, st1, F1, m1, x1, S1, r1, P1⟩
  unfold cIsi2 at P1; dsimp only at P1
  split at P1
  · rename_i t ht
    refine ⟨by show 2 ≤ sizeLine; rw [sizeLine_eq]; decide, fun q hq => ?_⟩
    have S2 := S1.grow (H' := upd H1 q (.tup [.ty T, .ty U])) fun a u ha => by rw [upd_ne (ne_of_none ha hq)]; exact ha
    obtain ⟨ty, hk⟩ := tyOf_at S2 r1 ht
    refine ⟨v, q, [.ty T, .ty U], .type t, [.type T, .type U], _, rfl, upd_same, .cons (.ty T) (.cons (.ty U) .nil), ty, ?_, P1.ok S2 (Rp.bl _)⟩
    refine kitAny_cons (isTy_ok _ hk hT) (fun e => ?_) (fun e => by rw [e]; rfl)
    refine kitAny_cons (isTy_ok _ hk hU) (fun e2 => ?_) (fun e2 => by rw [e2, Bool.or_true])
    rw [e, e2]
    rfl
  · exact False.elim P1

/-! ### methods of lists -/
@[simp] def eMtL (f : D → List D → Store → R D) (o : EE) (a : EA) : EE := fun σ st => (o σ st).bind fun x st1 => if (rolOf x st1).isSome = true then (a σ st1).bind fun ds st2 => f x ds st2 else .bad
theorem ty_list {K : PySem.W.Frag} {F H : Hp} {m : Am} {st : Store} {v : V} {d : D} (S : Sto K F m st H) (r : Rp K F m v d) (h : (rolOf d st).isSome = true) : tyV K "list" v H := by
  obtain ⟨l, hl⟩ := Option.isSome_iff_exists.mp h
  obtain ⟨a, vs, rfl, h1, _⟩ := rolOf_at S r hl
  exact .inl ⟨rfl, vs, h1⟩
theorem fe_mt {f : D → List D → Store → R D} (hf : FMt X W id f) (slot : Slot "list" name id) (hty : typeOf (.builtin id) = pure (.type "method_descriptor")) (ho : FE X W o eo) (ha : FA X W (e :: es) aa)
    (hbase : attributeBase o name X.env (eval o X.env) = eval o X.env := by rfl)
    (hfew : ((backTo cpos (starEach (e :: es) X.env)).all (fun x => !x.1) && (backToKw cpos (keywordEach [] X.env)).all (fun x => x.1.isSome) && decide ((e :: es).length + ([] : List Keyword).length + (if ([] : List Keyword).isEmpty then 0 else 1) < 30)) = true := by rfl)
    (hline : (apos.endLine == cpos.line) = true := by rfl) (hs : starEach (e :: es) X.env = (false, eval e X.env) :: starEach es X.env := by rfl) (hplain : (backTo cpos (starEach es X.env)).any (·.1) = false := by rfl) :
    FE X W (.Call (.Attribute o name apos) (e :: es) [] cpos) (eMtL f eo aa) := by
  obtain ⟨r, hr, sr⟩ := hf
  obtain ⟨t1, p1, s1⟩ := ho
  obtain ⟨t2, p2, s2⟩ := ha
  refine ⟨_, pe_bm PySem.F.plainAttrs_list slot hty hr p1 p2 hbase hfew hline hs hplain, fun sg H F m σ st Q S R P => s1 _ _ _ _ _ _ _ S R (P.bind.imp ?_)⟩
  rintro x H1 ⟨d, st1, F1, m1, x1, S1, r1, P1⟩
  obtain ⟨c, P1⟩ := post_ite P1
  refine ⟨ty_list S1 r1 c, s2 _ _ _ _ _ _ _ S1 (R.up x1) (P1.bind.imp ?_)⟩
  rintro xs H2 ⟨ds, st2, F2, m2, x2, S2, r2, P2⟩
  exact sr _ _ _ _ _ _ _ _ _ _ S2 (r1.up x2) r2 P2
theorem fe_mt0 {f : D → List D → Store → R D} (hf : FMt X W id f) (slot : Slot "list" name id) (hty : typeOf (.builtin id) = pure (.type "method_descriptor")) (ho : FE X W o eo)
    (hbase : attributeBase o name X.env (eval o X.env) = eval o X.env := by rfl) (hline : (apos.endLine == cpos.line) = true := by rfl) :
    FE X W (.Call (.Attribute o name apos) [] [] cpos) (eMtL f eo aNil) := by
  obtain ⟨r, hr, sr⟩ := hf
  obtain ⟨t1, p1, s1⟩ := ho
  refine ⟨_, pe_bm0 PySem.F.plainAttrs_list slot hty hr p1 hbase hline, fun sg H F m σ st Q S R P => s1 _ _ _ _ _ _ _ S R (P.bind.imp ?_)⟩
  rintro x H1 ⟨d, st1, F1, m1, x1, S1, r1, P1⟩
  obtain ⟨c, P1⟩ := post_ite P1
  exact ⟨ty_list S1 r1 c, sr _ _ _ _ _ _ _ _ _ _ S1 r1 .nil P1⟩
theorem own_lst {K : PySem.W.Frag} {F H : Hp} {m : Am} {st : Store} {v : V} {k : Nat} {l : List D} (S : Sto K F m st H) (r : Rp K F m v (.own k)) (h : st[k]? = some (.lst l)) : ∃ a vs, v = .ref a ∧ m[k]? = some a ∧ F a = none ∧ H a = some (.lst vs) ∧ Rps K F m vs l := by
  cases r with
  | @own k a h1 =>
    obtain ⟨c, hc, q⟩ := S.cellAt h1
    rw [h] at hc
    cases hc
    obtain ⟨h2, vs, h3, h4⟩ := q
    exact ⟨a, vs, rfl, h1, h2, h3, h4⟩
/-- a list is written -/
theorem post_set {K : PySem.W.Frag} {mg : Str → Option Value} {sg : Sl} {F : Hp} {m : Am} {st : Store} {H : Hp} {k : Nat} {a : Addr} {vs : List V} {l : List D} {d : D} {v : V} {Q : VK} (P : Post K mg W sg (relE K) F m (.ok d (st.set k (.lst l))) Q) (S : Sto K F m st H) (hm : m[k]? = some a) (hF : F a = none) (r : Rps K F m vs l) (rd : Rp K F m v d) : Q v (upd H a (.lst vs)) :=
  P _ _ F m (Ext.refl F m) (S.write hm ⟨hF, vs, upd_same, r⟩) rd
theorem fm_app : FMt X W "list.append" mApp := by
  refine ⟨_, mt_append, fun sg H F m st x d xs ds Q S rx rs P => ?_⟩
  unfold mApp at P
  split at P
  · split at P
    · rename_i l hl
      obtain ⟨c, P⟩ := post_ite P
      obtain ⟨a, vs, rfl, hm, hF, h1, r1⟩ := own_lst S rx hl
      obtain ⟨y, rfl, ry⟩ := rps1 rs
      exact ⟨a, vs, y, rfl, rfl, h1, lt16 (by rw [r1.length]; exact c), post_set P S hm hF (r1.append (.cons ry .nil)) .non⟩
    · exact False.elim P
  · exact False.elim P
theorem getLast_ix {α : Type} (l : List α) : l.getLast? = l[l.length - 1]? := List.getLast?_eq_getElem?
theorem fm_pop : FMt X W "list.pop" mPop := by
  refine ⟨_, mt_pop, fun sg H F m st x d xs ds Q S rx rs P => ?_⟩
  unfold mPop at P
  split at P
  · split at P
    · rename_i l hl
      split at P
      · rename_i d hd
        obtain ⟨a, vs, rfl, hm, hF, h1, r1⟩ := own_lst S rx hl
        cases rs
        rw [getLast_ix] at hd
        obtain ⟨y, hy, ry⟩ := r1.get' hd
        rw [← r1.length] at hy
        exact ⟨a, vs, y, rfl, rfl, h1, hy, post_set P S hm hF r1.dropLast ry⟩
      · exact False.elim P
    · exact False.elim P
  · exact False.elim P
theorem fm_popAt : FMt X W "list.pop" mPopAt := by
  refine ⟨_, mt_popAt, fun sg H F m st x d xs ds Q S rx rs P => ?_⟩
  unfold mPopAt at P
  split at P
  · rename_i i
    split at P
    · rename_i l hl
      obtain ⟨⟨c0, c1⟩, P⟩ := post_ite P
      split at P
      · rename_i d hd
        obtain ⟨a, vs, rfl, hm, hF, h1, r1⟩ := own_lst S rx hl
        obtain ⟨y, rfl, ry⟩ := rps1 rs
        cases ry
        obtain ⟨y, hy, ry⟩ := r1.get' hd
        have hlt : i.toNat < vs.length := (List.getElem?_eq_some_iff.mp hy).1
        refine ⟨a, vs, i, i.toNat, y, rfl, rfl, h1, by omega, by omega, ?_, hy, post_set P S hm hF (r1.eraseIdx _) ry⟩
        unfold seqIndex?
        simp only [ge_iff_le]
        first
          | rw [if_pos (by omega)]
          | (simp; omega)
      · exact False.elim P
    · exact False.elim P
  · exact False.elim P
theorem fm_ins : FMt X W "list.insert" mIns := by
  refine ⟨_, mt_insert, fun sg H F m st x d xs ds Q S rx rs P => ?_⟩
  unfold mIns at P
  split at P
  · rename_i i d
    split at P
    · rename_i l hl
      obtain ⟨⟨c0, c1, c2⟩, P⟩ := post_ite P
      obtain ⟨a, vs, rfl, hm, hF, h1, r1⟩ := own_lst S rx hl
      obtain ⟨y, z, rfl, ry, rz⟩ := rps2 rs
      cases ry
      exact ⟨a, vs, i, z, rfl, rfl, h1, lt16 (by rw [r1.length]; exact c2), c0, by omega, post_set P S hm hF (((r1.take _).append (.cons rz .nil)).append (r1.drop _)) .non⟩
    · exact False.elim P
  · exact False.elim P
theorem fm_rev : FMt X W "list.reverse" mRev := by
  refine ⟨_, mt_reverse, fun sg H F m st x d xs ds Q S rx rs P => ?_⟩
  unfold mRev at P
  split at P
  · split at P
    · rename_i l hl
      obtain ⟨a, vs, rfl, hm, hF, h1, r1⟩ := own_lst S rx hl
      cases rs
      exact ⟨a, vs, rfl, rfl, h1, post_set P S hm hF r1.reverse .non⟩
    · exact False.elim P
  · exact False.elim P
theorem fm_ext : FMt X W "list.extend" mExt := by
  refine ⟨_, mt_extend, fun sg H F m st x d xs ds Q S rx rs P => ?_⟩
  unfold mExt at P
  split at P
  · split at P
    · rename_i l l2 hl hl2
      obtain ⟨c, P⟩ := post_ite P
      obtain ⟨a, vs, rfl, hm, hF, h1, r1⟩ := own_lst S rx hl
      obtain ⟨y, rfl, ry⟩ := rps1 rs
      obtain ⟨b, ws, rfl, h2, r2⟩ := lstOf_at S ry hl2
      exact ⟨a, b, vs, ws, rfl, rfl, h1, h2, sl16 (by rw [r1.length, r2.length]; exact c), post_set P S hm hF (r1.append r2) .non⟩
    · exact False.elim P
  · exact False.elim P
theorem ixOf_at {x : D} : ∀ {l : List D} {j : Nat}, ixOf x l = some j → ∃ y, l[j]? = some y ∧ eqF y x = true ∧ ∀ (i : Nat) z, i < j → l[i]? = some z → eqF z x = false
  | [], j, h => by cases h
  | y :: ys, j, h => by
    unfold ixOf at h
    by_cases c : eqF y x = true
    · rw [if_pos c] at h
      cases h
      exact ⟨y, rfl, c, fun i z hi => absurd hi (Nat.not_lt_zero i)⟩
    · rw [if_neg c] at h
      split at h
      · rename_i k hk
        cases h
        obtain ⟨w, h1, h2, h3⟩ := ixOf_at hk
        refine ⟨w, h1, h2, fun i z hi hz => ?_⟩
        cases i with
        | zero => cases hz; exact Bool.eq_false_iff.mpr c
        | succ i => exact h3 i z (by omega) hz
      · cases h
theorem fm_index : FMt X W "list.index" mIndex := by
  refine ⟨_, mt_index, fun sg H F m st x d xs ds Q S rx rs P => ?_⟩
  unfold mIndex at P
  split at P
  · split at P
    · rename_i e l hl
      obtain ⟨⟨c1, c2⟩, P⟩ := post_ite P
      split at P
      · rename_i j hj
        obtain ⟨a, vs, rfl, h1, r1⟩ := rolOf_at S rx hl
        obtain ⟨y, rfl, ry⟩ := rps1 rs
        obtain ⟨w, h2, h3, h4⟩ := ixOf_at hj
        obtain ⟨z, hz, rz⟩ := r1.get' h2
        refine ⟨a, vs, y, j, z, rfl, rfl, h1, flat_v ry c1, flats_v r1 c2, hz, ?_, fun i z' hi hz' => ?_, P.ok S (Rp.int _)⟩
        · rw [eqF_v rz ry (List.all_eq_true.mp c2 _ (List.mem_of_getElem? h2)) c1]
          exact h3
        · obtain ⟨w', h5, r5⟩ := r1.get hz'
          rw [eqF_v r5 ry (List.all_eq_true.mp c2 _ (List.mem_of_getElem? h5)) c1]
          exact h4 i w' hi h5
      · exact False.elim P
    · exact False.elim P
  · exact False.elim P

theorem countP_vals {w : V} : ∀ {vs : List V} {us : List Value}, Vals vs us → vs.all flatV = true → us.countP (eqU w) = vs.countP fun y => eqV y w
  | _, _, .nil, _ => rfl
  | v :: _, u :: _, .cons rv tv, f => by
    rw [List.all_cons, Bool.and_eq_true] at f
    rw [List.countP_cons, List.countP_cons, countP_vals tv f.2, eqU_of rv f.1]
theorem countP_rps {K : PySem.W.Frag} {F : Hp} {m : Am} {w : V} {e : D} (q : Rp K F m w e) (g : flatD e = true) : ∀ {vs : List V} {ds : List D}, Rps K F m vs ds → ds.all flatD = true → (vs.countP fun y => eqV y w) = ds.countP fun y => eqF y e
  | _, _, .nil, _ => rfl
  | v :: _, d :: _, .cons r t, f => by
    rw [List.all_cons, Bool.and_eq_true] at f
    rw [List.countP_cons, List.countP_cons, countP_rps q g t f.2, eqF_v r q f.1 g]
theorem fm_count : FMt X W "list.count" mCount := by
  refine ⟨fun x xs H Q => ∃ (a : Addr) (ys : List V) (y : V), x = .ref a ∧ xs = [y] ∧ SqL X.K H a ys ∧ flatV y = true ∧ ys.all flatV = true ∧ Q (.int (ys.countP fun z => eqV z y : Nat)) H, ?_, fun sg H F m st x d xs ds Q S rx rs P => ?_⟩
  · rintro pins s sg H x xs v us Q I rx rxs ⟨a, ys, y, rfl, rfl, hs, fy, fys, q⟩
    cases rx
    obtain ⟨u, rfl, ru⟩ := rxs.one
    obtain ⟨its, rv, ⟨⟨cls, dd, data, sl⟩, n, ho, hc, hdn, hd⟩, hlen⟩ := I.list hs
    dsimp only at hc hd
    subst hc hd
    refine call_meets PySem.F.slot_list_count ⟨_, ho, rfl⟩ PySem.F.entry_list_count (PySem.F.args_list_count_2 _ _) (SeqAt.list_countAt a its.toArray n dd sl u (eqU y)) ⟨ho, fun w hw => mem_eqAt ru fy rv fys w (by simpa using hw), ?_⟩
    rw [← countP_vals rv fys] at q
    exact ⟨.int _, H, I.tok _, ⟨_, rfl⟩, q⟩
  · unfold mCount at P
    split at P
    · split at P
      · rename_i l hl
        obtain ⟨⟨c1, c2⟩, P⟩ := post_ite P
        obtain ⟨a, vs, rfl, h1, r1⟩ := rolOf_at S rx hl
        obtain ⟨y, rfl, ry⟩ := rps1 rs
        refine ⟨a, vs, y, rfl, rfl, h1, flat_v ry c1, flats_v r1 c2, ?_⟩
        rw [countP_rps ry c1 r1 c2]
        exact P.ok S (Rp.int _)
      · exact False.elim P
    · exact False.elim P
/-! ### methods of tuples -/
theorem fm_countT : FMt X W "tuple.count" mCountT := by
  refine ⟨fun x xs H Q => ∃ (a : Addr) (ys : List V) (y : V), x = .ref a ∧ xs = [y] ∧ SqT X.K H a ys ∧ flatV y = true ∧ ys.all flatV = true ∧ Q (.int (ys.countP fun z => eqV z y : Nat)) H, ?_, fun sg H F m st x d xs ds Q S rx rs P => ?_⟩
  · rintro pins s sg H x xs v us Q I rx rxs ⟨a, ys, y, rfl, rfl, hs, fy, fys, q⟩
    cases rx
    obtain ⟨u, rfl, ru⟩ := rxs.one
    obtain ⟨its, rv, ⟨⟨cls, dd, data, sl⟩, ho, hc, n, hd⟩, hlen⟩ := I.tuple hs
    dsimp only at hc hd
    subst hc hd
    refine call_meets PySem.F.slot_tuple_count ⟨_, ho, rfl⟩ PySem.F.entry_tuple_count (PySem.F.args_tuple_count_2 _ _) (SeqAt.tuple_countAt a its.toArray n dd sl u (eqU y)) ⟨ho, fun w hw => mem_eqAt ru fy rv fys w (by simpa using hw), ?_⟩
    rw [← countP_vals rv fys] at q
    exact ⟨.int _, H, I.tok _, ⟨_, rfl⟩, q⟩
  · unfold mCountT at P
    split at P
    · obtain ⟨⟨c1, c2⟩, P⟩ := post_ite P
      obtain ⟨a, vs, rfl, h1, r1⟩ := tup_at S rx
      obtain ⟨y, rfl, ry⟩ := rps1 rs
      refine ⟨a, vs, y, rfl, rfl, h1, flat_v ry c1, flats_v r1 c2, ?_⟩
      rw [countP_rps ry c1 r1 c2]
      exact P.ok S (Rp.int _)
    · exact False.elim P
theorem fm_indexT : FMt X W "tuple.index" mIndexT := by
  refine ⟨fun x xs H Q => ∃ (a : Addr) (ys : List V) (y : V) (j : Nat) (z : V), x = .ref a ∧ xs = [y] ∧ SqT X.K H a ys ∧ flatV y = true ∧ ys.all flatV = true ∧ ys[j]? = some z ∧ eqV z y = true ∧
    (∀ (m : Nat) (z' : V), m < j → ys[m]? = some z' → eqV z' y = false) ∧ Q (.int (j : Nat)) H, ?_, fun sg H F m st x d xs ds Q S rx rs P => ?_⟩
  · rintro pins s sg H x xs v us Q I rx rxs ⟨a, ys, y, j, z, rfl, rfl, hs, fy, fys, hz, hzj, hno, q⟩
    cases rx
    obtain ⟨uy, rfl, ru⟩ := rxs.one
    obtain ⟨its, rv, ⟨⟨cls, dd, data, sl⟩, ho, hc, n, hd⟩, hlen⟩ := I.tuple hs
    dsimp only at hc hd
    subst hc hd
    obtain ⟨u, hu, rz⟩ := rv.get hz
    obtain ⟨hjl, hje⟩ := List.getElem?_eq_some_iff.mp hu
    have hvl := rv.length
    refine call_meets PySem.F.slot_tuple_index ⟨_, ho, rfl⟩ PySem.F.entry_tuple_index (PySem.F.args_tuple_index_2 _ _) (TI.tuple_indexAt a its.toArray n dd sl uy (eqU y) j (by simpa using hjl) ?_ fun m hm hmj => ?_) ⟨ho, fun w hw => mem_eqAt ru fy rv fys w (by simpa using hw), ⟨.int _, H, I.tok _, ⟨_, rfl⟩, q⟩⟩
    · rw [List.getElem_toArray, hje, eqU_of rz (flat_at fys hz)]
      exact hzj
    · have hml : m < its.length := by simpa using hm
      have hy' := List.getElem?_eq_getElem (show m < ys.length by omega)
      obtain ⟨u2, hu2, ru2⟩ := rv.get hy'
      obtain ⟨_, hme⟩ := List.getElem?_eq_some_iff.mp hu2
      rw [List.getElem_toArray, hme, eqU_of ru2 (flat_at fys hy')]
      exact hno m _ hmj hy'
  · unfold mIndexT at P
    split at P
    · rename_i l e
      obtain ⟨⟨c1, c2⟩, P⟩ := post_ite P
      split at P
      · rename_i j hj
        obtain ⟨a, vs, rfl, h1, r1⟩ := tup_at S rx
        obtain ⟨y, rfl, ry⟩ := rps1 rs
        obtain ⟨w, h2, h3, h4⟩ := ixOf_at hj
        obtain ⟨z, hz, rz⟩ := r1.get' h2
        refine ⟨a, vs, y, j, z, rfl, rfl, h1, flat_v ry c1, flats_v r1 c2, hz, ?_, fun i z' hi hz' => ?_, P.ok S (Rp.int _)⟩
        · rw [eqF_v rz ry (List.all_eq_true.mp c2 _ (List.mem_of_getElem? h2)) c1]
          exact h3
        · obtain ⟨w', h5, r5⟩ := r1.get hz'
          rw [eqF_v r5 ry (List.all_eq_true.mp c2 _ (List.mem_of_getElem? h5)) c1]
          exact h4 i w' hi h5
      · exact False.elim P
    · exact False.elim P
def tBMF (K : PySem.W.Frag) (r : V → List V → Hp → VK → Prop) (to : TE) (t : TA) : TE := fun σ H Q => to σ H fun x H1 => (∃ (p : Addr) (vs : List V), x = .ref p ∧ TupF K H1 p vs) ∧ t σ H1 fun xs H2 => r x xs H2 Q
theorem pe_bmF {r : V → List V → Hp → VK → Prop} {to : TE} {t : TA} (slot : Slot "tuple" name id) (hty : typeOf (.builtin id) = pure (.type "method_descriptor")) (hm : MtR X id r) (ho : PE X o to) (ha : PA X (e :: es) t)
    (hbase : attributeBase o name X.env (eval o X.env) = eval o X.env)
    (hfew : ((backTo cpos (starEach (e :: es) X.env)).all (fun x => !x.1) && (backToKw cpos (keywordEach [] X.env)).all (fun x => x.1.isSome) && decide ((e :: es).length + ([] : List Keyword).length + (if ([] : List Keyword).isEmpty then 0 else 1) < 30)) = true)
    (hline : (apos.endLine == cpos.line) = true) (hs : starEach (e :: es) X.env = (false, eval e X.env) :: starEach es X.env) (hplain : (backTo cpos (starEach es X.env)).any (·.1) = false) :
    PE X (.Call (.Attribute o name apos) (e :: es) [] cpos) (tBMF X.K r to t) := by
  refine ⟨fun pins s sg H Q I h => wpAny_Call_method_late hbase hfew hline rfl (thn (ho.run pins s sg H _ I h) ?_)⟩
  rintro v s1 ⟨x, H1, I1, r1, ⟨p, vs, rfl, tf⟩, q1⟩
  cases r1
  have hob : ∃ ob : Obj, s1.heap.get? p = some ob ∧ ob.cls = .type "tuple" ∧ ob.dict = none := by
    rcases tf with ⟨ob, h1, h2⟩ | ⟨ob, its, n, h1, h2, h3, _⟩
    · obtain ⟨g1, _, its, _, ob2, g2, g3, _⟩ : ObjOk X.prog X.w H1 s1.heap p (.frz ob (.tup vs)) := I1.hok p _ h1
      rw [g1] at g2
      cases g2
      exact ⟨ob, g1, g3, h2⟩
    · exact ⟨ob, I1.kIn p ob h1, h2, h3⟩
  obtain ⟨ob, g1, g2, g3⟩ := hob
  refine ⟨"tuple", id, PySem.F.plainAttrs_tuple, slot, hty, ⟨ob, g1, g2⟩, fun a ea => ?_, ?_⟩
  · cases ea
    exact ⟨ob, g1, g3⟩
  · have hA := ha.run cpos pins s1 sg H1 _ I1 q1
    rw [hs] at hA ⊢
    have h0 : (false || (backTo cpos (starEach es X.env)).any (·.1)) = false := by rw [hplain]; rfl
    exact Calls.callWith_builtin h0 (Calls.evalArgs_plain (thn hA fun us s2 ⟨vs2, H2, I2, r2, q2⟩ => hm pins s2 sg H2 (V.ref p) vs2 _ us Q I2 rfl r2 q2))
/-- a method of a list or of a tuple, by what comes -/
@[simp] def eMtS (f g : D → List D → Store → R D) (o : EE) (a : EA) : EE := fun σ st => (o σ st).bind fun x st1 => match x with
  | .tup l => (a σ st1).bind fun ds st2 => g (.tup l) ds st2
  | x => if (rolOf x st1).isSome = true then (a σ st1).bind fun ds st2 => f x ds st2 else .bad
theorem fe_mtS {id2 : String} {f g : D → List D → Store → R D} (hf : FMt X W id f) (hg : FMt X W id2 g) (slot : Slot "list" name id) (slot2 : Slot "tuple" name id2) (hty : typeOf (.builtin id) = pure (.type "method_descriptor")) (hty2 : typeOf (.builtin id2) = pure (.type "method_descriptor")) (ho : FE X W o eo) (ha : FA X W (e :: es) aa)
    (hbase : attributeBase o name X.env (eval o X.env) = eval o X.env := by rfl)
    (hfew : ((backTo cpos (starEach (e :: es) X.env)).all (fun x => !x.1) && (backToKw cpos (keywordEach [] X.env)).all (fun x => x.1.isSome) && decide ((e :: es).length + ([] : List Keyword).length + (if ([] : List Keyword).isEmpty then 0 else 1) < 30)) = true := by rfl)
    (hline : (apos.endLine == cpos.line) = true := by rfl) (hs : starEach (e :: es) X.env = (false, eval e X.env) :: starEach es X.env := by rfl) (hplain : (backTo cpos (starEach es X.env)).any (·.1) = false := by rfl) :
    FE X W (.Call (.Attribute o name apos) (e :: es) [] cpos) (eMtS f g eo aa) := by
  obtain ⟨r, hr, sr⟩ := hf
  obtain ⟨r', hr', sr'⟩ := hg
  obtain ⟨t1, p1, s1⟩ := ho
  obtain ⟨t2, p2, s2⟩ := ha
  have A1 := pe_bm (cpos := cpos) (apos := apos) PySem.F.plainAttrs_list slot hty hr p1 p2 hbase hfew hline hs hplain
  have A2 := pe_bmF (cpos := cpos) (apos := apos) slot2 hty2 hr' p1 p2 hbase hfew hline hs hplain
  refine ⟨fun σ H Q => tBM X.K "list" r t1 t2 σ H Q ∨ tBMF X.K r' t1 t2 σ H Q, ⟨fun pins s sg H Q I h => h.elim (A1.run pins s sg H Q I) (A2.run pins s sg H Q I)⟩, fun sg H F m σ st Q S R P => ?_⟩
  cases hx : eo σ st with
  | bad =>
    unfold eMtS at P
    rw [hx] at P
    exact False.elim P
  | exc n st' =>
    refine .inl (s1 _ _ _ _ _ _ _ S R ?_)
    unfold eMtS at P
    rw [hx] at P ⊢
    exact P
  | ok x st' =>
    have P' : Post X.K X.mg W sg (relE X.K) F m ((eo σ st).bind fun x st1 => match x with
      | .tup l => (aa σ st1).bind fun ds st2 => g (.tup l) ds st2
      | x => if (rolOf x st1).isSome = true then (aa σ st1).bind fun ds st2 => f x ds st2 else .bad) Q := P
    by_cases ht : ∃ l, x = .tup l
    · obtain ⟨l, rfl⟩ := ht
      refine .inr (s1 _ _ _ _ _ _ _ S R ?_)
      rw [hx] at P' ⊢
      intro v H' F' m' x1 S1 r1
      refine ⟨by cases r1 with | tup h1 h2 => exact ⟨_, _, rfl, tupf_mono S1.sub h1⟩, ?_⟩
      have P1 : Post X.K X.mg W sg (relE X.K) F' m' ((aa σ st').bind fun ds st2 => g (.tup l) ds st2) Q := Post.up P' x1
      refine s2 _ _ _ _ _ _ _ S1 (R.up x1) (P1.bind.imp ?_)
      rintro xs H2 ⟨ds, st2, F2, m2, x2, S2, r2, P2⟩
      exact sr' _ _ _ _ _ _ _ _ _ _ S2 (r1.up x2) r2 P2
    · refine .inl (s1 _ _ _ _ _ _ _ S R ?_)
      rw [hx] at P' ⊢
      intro v H' F' m' x1 S1 r1
      have P1 : Post X.K X.mg W sg (relE X.K) F m (if (rolOf x st').isSome = true then (aa σ st').bind fun ds st2 => f x ds st2 else .bad) Q := by
        cases x with
        | tup l => exact absurd ⟨l, rfl⟩ ht
        | _ => exact P'
      obtain ⟨c, P1⟩ := post_ite (Post.up P1 x1)
      refine ⟨ty_list S1 r1 c, s2 _ _ _ _ _ _ _ S1 (R.up x1) (P1.bind.imp ?_)⟩
      rintro xs H2 ⟨ds, st2, F2, m2, x2, S2, r2, P2⟩
      exact sr _ _ _ _ _ _ _ _ _ _ S2 (r1.up x2) r2 P2
end
end Fx

set_option Elab.async false
set_option linter.all false
set_option maxRecDepth 100000
set_option maxHeartbeats 4000000
/-! Fx: statements and loops -/
namespace Fx
open PySem PySem.Spec PyProof.Rows L2

inductive RS where
  | nx (σ : Slots) (st : Store)
  | ret (d : D) (st : Store)
  | brk (σ : Slots) (st : Store)
  | cnt (σ : Slots) (st : Store)
  | exc (e : Exn) (σ : Slots) (st : Store)
  | bad
abbrev SE := Slots → Store → RS
def PostS (K : PySem.W.Frag) (mg : Str → Option Value) (W : WX) (D : Ends) (F : Hp) (m : Am) (r : RS) : Prop :=
  match r with
  | .nx σ st => ∀ sg H F' m', Ext F m F' m' → Sto K F' m' st H → Rsl K F' m' sg σ → D.nx sg H
  | .ret d st => ∀ v H F' m', Ext F m F' m' → Sto K F' m' st H → Rp K F' m' v d → D.rt v H
  | .brk σ st => ∀ sg H F' m', Ext F m F' m' → Sto K F' m' st H → Rsl K F' m' sg σ → D.bk sg H
  | .cnt σ st => ∀ sg H F' m', Ext F m F' m' → Sto K F' m' st H → Rsl K F' m' sg σ → D.ct sg H
  | .exc e σ st => ∀ sg H F' m' cls d, Ext F m F' m' → Sto K F' m' st H → Rsl K F' m' sg σ → ExnAt K mg F' m' H e cls d → W cls d sg H
  | .bad => False
@[simp] def lift {α : Type} (r : R α) (σ : Slots) (k : α → Store → RS) : RS := match r with
  | .ok a st => k a st
  | .exc e st => .exc e σ st
  | .bad => .bad
section
variable {K : PySem.W.Frag} {mg : Str → Option Value} {W : WX} {D : Ends} {F F1 : Hp} {m m1 : Am} {r : RS}
theorem PostS.up (h : PostS K mg W D F m r) (e : Ext F m F1 m1) : PostS K mg W D F1 m1 r := by
  cases r with
  | nx σ st => exact fun sg H F' m' x => h sg H F' m' (e.trans x)
  | ret d st => exact fun sg H F' m' x => h sg H F' m' (e.trans x)
  | brk σ st => exact fun sg H F' m' x => h sg H F' m' (e.trans x)
  | cnt σ st => exact fun sg H F' m' x => h sg H F' m' (e.trans x)
  | exc n σ st => exact fun sg H F' m' cls d x => h sg H F' m' cls d (e.trans x)
  | bad => exact h
theorem PostS.lift {α β : Type} {rel : Hp → Am → β → α → Prop} {q : R α} {σ : Slots} {k : α → Store → RS} {sg : Sl} (h : PostS K mg W D F m (lift q σ k)) (R : Rsl K F m sg σ) :
    Post K mg W sg rel F m q (fun v H1 => ∃ a st1 F1 m1, Ext F m F1 m1 ∧ Sto K F1 m1 st1 H1 ∧ rel F1 m1 v a ∧ PostS K mg W D F1 m1 (k a st1)) := by
  cases q with
  | ok a st => exact fun v H' F' m' x s r => ⟨a, st, F', m', x, s, r, PostS.up h x⟩
  | exc n st => exact fun H' F' m' cls d x s => h sg H' F' m' cls d x s (R.up x)
  | bad => exact h
theorem PostS.nx {σ : Slots} {st : Store} {sg : Sl} {H : Hp} (h : PostS K mg W D F m (.nx σ st)) (S : Sto K F m st H) (R : Rsl K F m sg σ) : D.nx sg H := h sg H F m (Ext.refl F m) S R
theorem PostS.ret {d : Fx.D} {st : Store} {v : V} {H : Hp} (h : PostS K mg W D F m (.ret d st)) (S : Sto K F m st H) (R : Rp K F m v d) : D.rt v H := h v H F m (Ext.refl F m) S R
end
def SmS (K : PySem.W.Frag) (mg : Str → Option Value) (W : WX) (t : TS) (ev : SE) : Prop := ∀ D sg H F m σ st, Sto K F m st H → Rsl K F m sg σ → PostS K mg W D F m (ev σ st) → t D sg H
def FS (X : Cx) (W : WX) (st : Stmt) (ev : SE) : Prop := ∃ t, PS X st t ∧ SmS X.K X.mg W t ev
def FB (X : Cx) (W : WX) (st : List Stmt) (ev : SE) : Prop := ∃ t, PSs X st t ∧ SmS X.K X.mg W t ev

/-! ### evaluators of statements -/
@[simp] def sPass : SE := fun σ st => .nx σ st
@[simp] def sSeq (a b : SE) : SE := fun σ st => match a σ st with
  | .nx σ' st' => b σ' st'
  | r => r
@[simp] def sRet (e : EE) : SE := fun σ st => lift (e σ st) σ fun d st1 => .ret d st1
def sRetN : SE := fun _ st => .ret .non st
@[simp] def sDrop (e : EE) : SE := fun σ st => lift (e σ st) σ fun _ st1 => .nx σ st1
@[simp] def sIf (c : ET) (a b : SE) : SE := fun σ st => lift (c σ st) σ fun x st1 => if x then a σ st1 else b σ st1
def sBrk : SE := fun σ st => .brk σ st
def sCnt : SE := fun σ st => .cnt σ st
/-- targets -/
abbrev GE := D → Slots → Option Slots
abbrev GEs := List D → Slots → Option Slots
@[simp] def gN (i : Nat) : GE := fun d σ => some (σ.set i (some d))
def gNone : GEs := fun ds σ => match ds with
  | [] => some σ
  | _ => none
def gMore (g : GE) (r : GEs) : GEs := fun ds σ => match ds with
  | d :: ds => match g d σ with
    | some σ1 => r ds σ1
    | none => none
  | [] => none
def gT (r : GEs) : GE := fun d σ => match d with
  | .tup ds => r ds σ
  | _ => none
@[simp] def sAsg (e : EE) (g : GE) : SE := fun σ st => lift (e σ st) σ fun d st1 => match g d σ with
  | some σ1 => .nx σ1 st1
  | none => .bad
/-- o[i] = e -/
@[simp] def dSet (o i v : D) (st : Store) : Option Store := match o, i with
  | .own k, .int j => match st[k]? with
    | some (.lst l) => match ixN l.length j with
      | some n => some (st.set k (.lst (l.set n v)))
      | none => none
    | _ => none
  | _, _ => none
@[simp] def sSub (e o i : EE) (f : D → D → D → Store → Option Store) : SE := fun σ st => lift (e σ st) σ fun v st1 => lift (o σ st1) σ fun x st2 => lift (i σ st2) σ fun y st3 => match f x y v st3 with
  | some st4 => .nx σ st4
  | none => .bad
@[simp] def sAug (i : Nat) (f : D → D → Store → R D) (e : EE) : SE := fun σ st => match σ[i]? with
  | some (some x) => lift (e σ st) σ fun y st1 => lift (f x y st1) σ fun z st2 => .nx (σ.set i (some z)) st2
  | _ => .bad

section
variable {X : Cx} {W : WX} {s : Stmt} {rest : List Stmt} {a b : SE} {e : Expr} {ee : EE} {pos : Pos}
theorem fb_nil : FB X W [] sPass := ⟨_, pss_nil, fun D sg H F m σ st S R P => P.nx S R⟩
theorem fb_one (h : FS X W s a) : FB X W [s] a := let ⟨t, p, q⟩ := h; ⟨t, pss_one p, q⟩
theorem fb_cons (h1 : FS X W s a) (h2 : FB X W rest b) : FB X W (s :: rest) (sSeq a b) := by
  obtain ⟨t1, p1, s1⟩ := h1
  obtain ⟨t2, p2, s2⟩ := h2
  refine ⟨_, pss_cons p1 p2, fun D sg H F m σ st S R P => s1 _ _ _ _ _ _ _ S R ?_⟩
  unfold sSeq at P
  cases h : a σ st with
  | nx σ' st' =>
    rw [h] at P
    exact fun sg' H' F' m' x S' R' => s2 _ _ _ _ _ _ _ S' R' (P.up x)
  | ret d st' => rw [h] at P; exact P
  | brk σ' st' => rw [h] at P; exact P
  | cnt σ' st' => rw [h] at P; exact P
  | exc n σ' st' => rw [h] at P; exact P
  | bad => rw [h] at P; exact P
theorem fs_pass : FS X W (.Pass pos) sPass := ⟨_, ps_pass, fun D sg H F m σ st S R P => P.nx S R⟩
theorem fs_break : FS X W (.Break pos) sBrk := ⟨_, ps_break, fun D sg H F m σ st S R P => P sg H F m (Ext.refl F m) S R⟩
theorem fs_continue : FS X W (.Continue pos) sCnt := ⟨_, ps_continue, fun D sg H F m σ st S R P => P sg H F m (Ext.refl F m) S R⟩
theorem fs_ret (h : FE X W e ee) : FS X W (.Return (some e) pos) (sRet ee) := by
  obtain ⟨t, p, s⟩ := h
  refine ⟨_, ps_ret p, fun D sg H F m σ st S R P => s _ _ _ _ _ _ _ S R ((P.lift R).imp ?_)⟩
  rintro v H1 ⟨d, st1, F1, m1, x1, S1, r1, P1⟩
  exact P1.ret S1 r1
theorem fs_retN : FS X W (.Return none pos) sRetN := ⟨_, ps_retN, fun D sg H F m σ st S R P => P.ret S .non⟩
theorem fs_expr (h : FE X W e ee) (hs : swapsWith e none pos.line X.env = pure false := by rfl) : FS X W (.Expr e pos) (sDrop ee) := by
  obtain ⟨t, p, s⟩ := h
  refine ⟨_, ps_expr p hs, fun D sg H F m σ st S R P => s _ _ _ _ _ _ _ S R ((P.lift R).imp ?_)⟩
  rintro v H1 ⟨d, st1, F1, m1, x1, S1, r1, P1⟩
  exact P1.nx S1 (R.up x1)
theorem fs_doc {x j} {p2 : Pos} : FS X W (.Expr (.Constant (.str x) j pos) p2) sPass := ⟨_, ps_doc, fun D sg H F m σ st S R P => P.nx S R⟩
theorem fs_if {c : Expr} {ec : ET} {b1 b2 : List Stmt} (hc : FT X W c ec) (ha : FB X W b1 a) (hb : FB X W b2 b) : FS X W (.If c b1 b2 pos) (sIf ec a b) := by
  obtain ⟨t0, p0, s0⟩ := hc
  obtain ⟨t1, p1, s1⟩ := ha
  obtain ⟨t2, p2, s2⟩ := hb
  refine ⟨_, ps_if p0 p1 p2, fun D sg H F m σ st S R P => s0 _ _ _ _ _ _ _ S R ((P.lift R).imp ?_)⟩
  rintro v H1 ⟨d, st1, F1, m1, x1, S1, r1, P1⟩
  cases r1
  cases v with
  | true => exact s1 _ _ _ _ _ _ _ S1 (R.up x1) P1
  | false => exact s2 _ _ _ _ _ _ _ S1 (R.up x1) P1

/-! ### targets and assignments -/
def SmG (K : PySem.W.Frag) (g : TG) (f : GE) : Prop := ∀ sg H F m σ st v d σ' Q, Sto K F m st H → Rsl K F m sg σ → Rp K F m v d → f d σ = some σ' → (∀ sg', Rsl K F m sg' σ' → Q sg' H) → g v sg H Q
def SmGs (K : PySem.W.Frag) (g : TGs) (f : GEs) : Prop := ∀ sg H F m σ st v d σ' Q, Sto K F m st H → Rsl K F m sg σ → Rps K F m v d → f d σ = some σ' → (∀ sg', Rsl K F m sg' σ' → Q sg' H) → g v sg H Q
def FG (X : Cx) (e : Expr) (f : GE) : Prop := ∃ g, PG X e g ∧ SmG X.K g f
def FGs (X : Cx) (es : List Expr) (f : GEs) : Prop := ∃ g, PGs X es g ∧ SmGs X.K g f
theorem fg_name {i : Nat} {x : Str} (hN : X.N.Nodup) (hi : X.N[i]? = some x) (hx : Loc X.env.scope x) (hf : X.fn x = true ∨ X.env.scope.names.lookup x = some .local := by first | exact .inl rfl | exact .inr rfl) : FG X (.Name x pos) (gN i) :=
  ⟨_, pg_name hN hi hx hf, fun sg H F m σ st v d σ' Q S R r e q => by
    cases e
    exact q _ (R.set r i)⟩
theorem fgs_nil : FGs X [] gNone := ⟨_, pgs_nil, fun sg H F m σ st v d σ' Q S R r e q => by
  cases r with
  | nil => cases e; exact ⟨rfl, q _ R⟩
  | cons _ _ => cases e⟩
theorem fgs_cons {e : Expr} {es : List Expr} {g : GE} {r : GEs} (h1 : FG X e g) (h2 : FGs X es r) (hs : (assignEach (e :: es) X.env).map (·.2) = assign e X.env :: (assignEach es X.env).map (·.2) := by rfl) : FGs X (e :: es) (gMore g r) := by
  obtain ⟨t1, p1, s1⟩ := h1
  obtain ⟨t2, p2, s2⟩ := h2
  refine ⟨_, pgs_cons p1 p2 hs, fun sg H F m σ st v d σ' Q S R r e q => ?_⟩
  cases r with
  | nil => cases e
  | cons r1 r2 =>
    unfold gMore at e
    dsimp only at e
    split at e
    · rename_i σ1 h1
      exact ⟨_, _, rfl, s1 _ _ _ _ _ _ _ _ _ _ S R r1 h1 fun sg1 R1 => s2 _ _ _ _ _ _ _ _ _ _ S R1 r2 e q⟩
    · cases e
/-- how many a target takes -/
def Takes1 (f : GEs) (n : Nat) : Prop := ∀ ds σ σ', f ds σ = some σ' → ds.length = n
theorem takes_nil : Takes1 gNone 0 := fun ds σ σ' e => by
  cases ds with
  | nil => rfl
  | cons _ _ => cases e
theorem takes_more {g : GE} {r : GEs} {n : Nat} (h : Takes1 r n) : Takes1 (gMore g r) (n + 1) := fun ds σ σ' e => by
  cases ds with
  | nil => cases e
  | cons d ds =>
    unfold gMore at e
    dsimp only at e
    split at e
    · rw [List.length_cons, h _ _ _ e]
    · cases e
theorem fg_tup {es : List Expr} {k : Nat} {r : GEs} {n : Nat} (hc : X.calm = true) (h : FGs X es r) (ht : Takes1 r n) (hn : (assignEach es X.env).length = n := by rfl) (hst : (assignEach es X.env).findIdx? (·.1) = none := by rfl) : FG X (.Tuple es k pos) (gT r) := by
  obtain ⟨t1, p1, s1⟩ := h
  refine ⟨_, pg_tup hc p1 hn hst, fun sg H F m σ st v d σ' Q S R r e q => ?_⟩
  unfold gT at e
  split at e
  · obtain ⟨a, vs, rfl, h1, r1⟩ := tup_at S r
    exact ⟨a, vs, rfl, h1, by rw [r1.length]; exact ht _ _ _ e, s1 _ _ _ _ _ _ _ _ _ _ S R r1 e q⟩
  · cases e
theorem asg_post {g : TG} {f : GE} {K : PySem.W.Frag} {mg : Str → Option Value} {W : WX} {D : Ends} {F : Hp} {m : Am} {st : Store} {H : Hp} {sg : Sl} {σ : Slots} {v : V} {d : Fx.D} (hg : SmG K g f) (S : Sto K F m st H) (R : Rsl K F m sg σ) (r : Rp K F m v d) (P : PostS K mg W D F m (match f d σ with
  | some σ1 => .nx σ1 st
  | none => .bad)) : g v sg H D.nx := by
  split at P
  · rename_i σ1 h1
    exact hg _ _ _ _ _ _ _ _ _ _ S R r h1 fun sg' R' => P.nx S R'
  · exact False.elim P
theorem fs_asg {tg : Expr} {g : GE} (he : FE X W e ee) (hg : FG X tg g) (hs : swapsWithSole [tg] e pos.line X.env = pure false := by rfl) (hw : swappedStores [tg] e X.env = pure none := by rfl) (h1 : (assignEach [tg] X.env).map (·.2) = [assign tg X.env] := by rfl) : FS X W (.Assign [tg] e pos) (sAsg ee g) := by
  obtain ⟨t1, p1, s1⟩ := he
  obtain ⟨t2, p2, s2⟩ := hg
  refine ⟨_, ps_asg p1 p2 hs hw h1, fun D sg H F m σ st S R P => s1 _ _ _ _ _ _ _ S R ((P.lift R).imp ?_)⟩
  rintro v H1 ⟨d, st1, F1, m1, x1, S1, r1, P1⟩
  exact asg_post s2 S1 (R.up x1) r1 P1
theorem fs_set {i : Nat} {x : Str} {p2 : Pos} (hN : X.N.Nodup) (hi : X.N[i]? = some x) (hx : Loc X.env.scope x) (he : FE X W e ee) (hs : swapsWith e (some (.Name x p2)) pos.line X.env = pure false := by rfl) (hf : X.fn x = true ∨ X.env.scope.names.lookup x = some .local := by first | exact .inl rfl | exact .inr rfl) : FS X W (.Assign [.Name x p2] e pos) (sAsg ee (gN i)) := by
  obtain ⟨t1, p1, s1⟩ := he
  refine ⟨_, ps_set hN hi hx p1 hs hf, fun D sg H F m σ st S R P => s1 _ _ _ _ _ _ _ S R ((P.lift R).imp ?_)⟩
  rintro v H1 ⟨d, st1, F1, m1, x1, S1, r1, P1⟩
  exact P1.nx S1 ((R.up x1).set r1 i)
def SmSet (K : PySem.W.Frag) (r : TSet) (f : Fx.D → Fx.D → Fx.D → Store → Option Store) : Prop := ∀ F m st H o i v x y z st' Q, Sto K F m st H → Rp K F m o x → Rp K F m i y → Rp K F m v z → f x y z st = some st' → (∀ H', Sto K F m st' H' → Q H') → r o i v H Q
theorem sm_setL {K : PySem.W.Frag} : SmSet K rSetL dSet := by
  intro F m st H o i v x y z st' Q S ro ri rv e q
  unfold dSet at e
  split at e
  · split at e
    · rename_i l hl
      split at e
      · rename_i n hn
        cases e
        obtain ⟨a, vs, rfl, hm, hF, h1, r1⟩ := own_lst S ro hl
        cases ri
        rw [← r1.length] at hn
        exact ⟨a, vs, _, n, rfl, rfl, h1, hn, q _ (S.write hm ⟨hF, _, upd_same, r1.set n rv⟩)⟩
      · cases e
    · cases e
  · cases e
theorem fs_sub {o i : Expr} {eo ei : EE} {p2 : Pos} (he : FE X W e ee) (ho : FE X W o eo) (hi : FE X W i ei) (hp : ∀ {to ti : TE}, PE X o to → PE X i ti → PG X (.Subscript o i p2) (gSub to ti rSetL))
    (hs : swapsWithSole [.Subscript o i p2] e pos.line X.env = pure false := by rfl) (hw : swappedStores [.Subscript o i p2] e X.env = pure none := by rfl) (h1 : (assignEach [.Subscript o i p2] X.env).map (·.2) = [assign (.Subscript o i p2) X.env] := by rfl) :
    FS X W (.Assign [.Subscript o i p2] e pos) (sSub ee eo ei dSet) := by
  obtain ⟨t1, p1, s1⟩ := he
  obtain ⟨t2, q2, s2⟩ := ho
  obtain ⟨t3, q3, s3⟩ := hi
  refine ⟨_, ps_asg p1 (hp q2 q3) hs hw h1, fun D sg H F m σ st S R P => s1 _ _ _ _ _ _ _ S R ((P.lift R).imp ?_)⟩
  rintro v H1 ⟨d, st1, F1, m1, x1, S1, r1, P1⟩
  refine s2 _ _ _ _ _ _ _ S1 (R.up x1) ((P1.lift (R.up x1)).imp ?_)
  rintro o H2 ⟨d2, st2, F2, m2, x2, S2, r2, P2⟩
  refine s3 _ _ _ _ _ _ _ S2 ((R.up x1).up x2) ((P2.lift ((R.up x1).up x2)).imp ?_)
  rintro i H3 ⟨d3, st3, F3, m3, x3, S3, r3, P3⟩
  split at P3
  · rename_i st4 h4
    exact sm_setL _ _ _ _ _ _ _ _ _ _ _ _ S3 (r2.up x3) r3 ((r1.up x2).up x3) h4 fun H' S' => P3.nx S' (((R.up x1).up x2).up x3)
  · exact False.elim P3
theorem fs_aug {i : Nat} {x : Str} {op : Operator} {f : Fx.D → Fx.D → Store → R Fx.D} {p2 : Pos} (hN : X.N.Nodup) (hi : X.N[i]? = some x) (hx : Loc X.env.scope x) (he : FE X W e ee) (ho : FOp X W (inplaceOp op) f) (hf : X.fn x = true ∨ X.env.scope.names.lookup x = some .local := by first | exact .inl rfl | exact .inr rfl) : FS X W (.AugAssign (.Name x p2) op e pos) (sAug i f ee) := by
  obtain ⟨t1, p1, s1⟩ := he
  obtain ⟨r, o1, s2⟩ := ho
  refine ⟨_, ps_aug hN hi hx p1 (ti := r) (fun pins s σ H x y v u Q I r1 r2 h => o1 pins s σ H x y v u Q I r1 r2 h) hf, fun D sg H F m σ st S R P => ?_⟩
  unfold sAug at P
  split at P
  · rename_i d hd
    obtain ⟨v, hv, rv⟩ := R.2 i d hd
    refine ⟨v, hv, s1 _ _ _ _ _ _ _ S R ((P.lift R).imp ?_)⟩
    rintro y H1 ⟨d2, st1, F1, m1, x1, S1, r1, P1⟩
    refine s2 sg _ _ _ _ _ _ _ _ _ S1 (rv.up x1) r1 ((P1.lift (R.up x1)).imp ?_)
    rintro z H2 ⟨d3, st2, F2, m2, x2, S2, r2, P2⟩
    exact P2.nx S2 (((R.up x1).up x2).set r2 i)
  · exact False.elim P

/-! ### in place -/
@[simp] def dIadd (a b : Fx.D) (st : Store) : R Fx.D := match a, b with
  | .int i, .int j => .ok (.int (i + j)) st
  | .str x, .str y => if x.length + y.length ≤ 16777216 then .ok (.str (x ++ y)) st else .bad
  | .own k, b => match st[k]?, lstOf b st with
    | some (.lst l), some l2 => if l.length + l2.length ≤ 16777216 then .ok (.own k) (st.set k (.lst (l ++ l2))) else .bad
    | _, _ => .bad
  | _, _ => .bad
theorem fo_iadd : FOp X W (inplaceOp .Add) dIadd := by
  refine fop_or (iop_add.or iop_add_str) iop_ext fun sg H F m st x y a b Q S ra rb P => ?_
  unfold dIadd at P
  split at P
  · cases ra; cases rb
    exact .inl (.inl ⟨_, _, rfl, rfl, P.ok S (.int _)⟩)
  · cases ra; cases rb
    obtain ⟨c, P⟩ := post_ite P
    exact .inl (.inr ⟨_, _, rfl, rfl, sl16 c, P.ok S (.str _)⟩)
  · split at P
    · rename_i l l2 hl hl2
      obtain ⟨c, P⟩ := post_ite P
      obtain ⟨a, vs, rfl, hm, hF, h1, r1⟩ := own_lst S ra hl
      obtain ⟨b, ws, rfl, h2, r2⟩ := lstOf_at S rb hl2
      exact .inr ⟨a, b, vs, ws, rfl, rfl, h1, h2, sl16 (by rw [r1.length, r2.length]; exact c), post_set P S hm hF (r1.append r2) ra⟩
    · exact False.elim P
  · exact False.elim P
def dIsub (a b : Fx.D) (st : Store) : R Fx.D := match a, b with
  | .int i, .int j => .ok (.int (i - j)) st
  | _, _ => .bad
theorem fo_isub : FOp X W (inplaceOp .Sub) dIsub := by
  refine ⟨_, iop_sub, fun sg H F m st x y a b Q S ra rb P => ?_⟩
  unfold dIsub at P
  split at P
  · cases ra; cases rb
    exact ⟨_, _, rfl, rfl, P.ok S (.int _)⟩
  · exact False.elim P

/-! ### while -/
def whileLoop (c : ET) (body : SE) : Nat → SE
  | 0 => fun _ _ => .bad
  | n + 1 => fun σ st => lift (c σ st) σ fun x st1 => if x then (match body σ st1 with
    | .nx σ2 st2 => whileLoop c body n σ2 st2
    | .cnt σ2 st2 => whileLoop c body n σ2 st2
    | .brk σ2 st2 => .nx σ2 st2
    | .ret d st2 => .ret d st2
    | .exc e σ2 st2 => .exc e σ2 st2
    | .bad => .bad) else .nx σ st1
theorem fs_while {c : Expr} {ec : ET} {body : List Stmt} {eb : SE} (n : Nat) (hp : PassesOwn (model X.prog X.w) X.A X.env X.xe) (hc : FT X W c ec) (hb : FB X W body eb) : FS X W (.While c body [] pos) (whileLoop ec eb n) := by
  obtain ⟨t1, p1, s1⟩ := hc
  obtain ⟨t2, p2, s2⟩ := hb
  refine ⟨_, ps_while hp p1 p2, fun D sg H F m σ st S R P => ?_⟩
  refine ⟨fun n' sg' H' => ∃ F' m' σ' st', Ext F m F' m' ∧ Sto X.K F' m' st' H' ∧ Rsl X.K F' m' sg' σ' ∧ PostS X.K X.mg W D F' m' (whileLoop ec eb n' σ' st'), ⟨n, F, m, σ, st, Ext.refl F m, S, R, P⟩, ?_⟩
  rintro n' sg' H' ⟨F', m', σ', st', x', S', R', P'⟩
  cases n' with
  | zero => exact False.elim P'
  | succ k =>
    refine s1 _ _ _ _ _ _ _ S' R' ((P'.lift R').imp ?_)
    rintro b H1 ⟨d, st1, F1, m1, x1, S1, r1, P1⟩
    cases r1
    cases b with
    | false => exact P1.nx S1 (R'.up x1)
    | true =>
      refine ⟨fun sg2 H2 => ∃ F2 m2 σ2 st2, Ext F m F2 m2 ∧ Sto X.K F2 m2 st2 H2 ∧ Rsl X.K F2 m2 sg2 σ2 ∧ PostS X.K X.mg W D F2 m2 (whileLoop ec eb k σ2 st2), fun sg2 H2 h => ⟨k, Nat.lt_succ_self k, h⟩, s2 _ _ _ _ _ _ _ S1 (R'.up x1) ?_⟩
      have P2 : PostS X.K X.mg W D F1 m1 (match eb σ' st1 with
        | .nx σ2 st2 => whileLoop ec eb k σ2 st2
        | .cnt σ2 st2 => whileLoop ec eb k σ2 st2
        | .brk σ2 st2 => .nx σ2 st2
        | .ret d st2 => .ret d st2
        | .exc e σ2 st2 => .exc e σ2 st2
        | .bad => .bad) := P1
      cases h : eb σ' st1 with
      | nx σ2 st2 =>
        rw [h] at P2
        exact fun sg3 H3 F3 m3 x3 S3 R3 => ⟨F3, m3, σ2, st2, (x'.trans x1).trans x3, S3, R3, P2.up x3⟩
      | cnt σ2 st2 =>
        rw [h] at P2
        exact fun sg3 H3 F3 m3 x3 S3 R3 => ⟨F3, m3, σ2, st2, (x'.trans x1).trans x3, S3, R3, P2.up x3⟩
      | brk σ2 st2 => rw [h] at P2; exact P2
      | ret d st2 => rw [h] at P2; exact P2
      | exc e σ2 st2 => rw [h] at P2; exact P2
      | bad => rw [h] at P2; exact P2

/-! ### what is walked -/
structure Itr where
  n : Nat
  get : Nat → Store → Option (Option Fx.D)
def ItOk (K : PySem.W.Frag) (F : Hp) (m : Am) (J : It) (it : Itr) : Prop := ∀ (i : Nat) F' m' st H, Ext F m F' m' → Sto K F' m' st H →
  (it.get i st = some none → J.stop i H) ∧ ∀ d, it.get i st = some (some d) → J.go i H ∧ ∀ x H', J.yld i H x H' → ∃ F2 m2, Ext F' m' F2 m2 ∧ Sto K F2 m2 st H' ∧ Rp K F2 m2 x d
theorem ItOk.up {K : PySem.W.Frag} {F F1 : Hp} {m m1 : Am} {J : It} {it : Itr} (h : ItOk K F m J it) (e : Ext F m F1 m1) : ItOk K F1 m1 J it := fun i F' m' st H x S => h i F' m' st H (e.trans x) S
abbrev relI (K : PySem.W.Frag) : Hp → Am → It → Itr → Prop := fun F m J it => ItOk K F m J it
abbrev EI := Slots → Store → R Itr
def SmI (K : PySem.W.Frag) (mg : Str → Option Value) (W : WX) (wi : TI) (ev : EI) : Prop := ∀ sg H F m σ st Q, Sto K F m st H → Rsl K F m sg σ → Post K mg W sg (relI K) F m (ev σ st) Q → wi sg H Q
def FI (X : Cx) (W : WX) (tg iter : Expr) (ev : EI) : Prop := ∃ wi, PI X tg iter wi ∧ SmI X.K X.mg W wi ev
def forLoop (get : Nat → Store → Option (Option Fx.D)) (g : GE) (body : SE) : Nat → Nat → SE
  | 0, _ => fun _ _ => .bad
  | n + 1, i => fun σ st => match get i st with
    | none => .bad
    | some none => .nx σ st
    | some (some d) => match g d σ with
      | none => .bad
      | some σ1 => match body σ1 st with
        | .nx σ2 st2 => forLoop get g body n (i + 1) σ2 st2
        | .cnt σ2 st2 => forLoop get g body n (i + 1) σ2 st2
        | .brk σ2 st2 => .nx σ2 st2
        | .ret d st2 => .ret d st2
        | .exc e σ2 st2 => .exc e σ2 st2
        | .bad => .bad
@[simp] def sFor (ei : EI) (g : GE) (body : SE) : SE := fun σ st => lift (ei σ st) σ fun it st1 => forLoop it.get g body it.n 0 σ st1
theorem fs_for {tg iter : Expr} {ei : EI} {g : GE} {body : List Stmt} {eb : SE} (hp : PassesOwn (model X.prog X.w) X.A X.env X.xe) (hc : X.calm = true) (hi : FI X W tg iter ei) (hg : FG X tg g) (hb : FB X W body eb) (hs : ∀ x, foldedSetIterable iter X.env x = pure x := by intro _; rfl) :
    FS X W (.For tg iter body [] pos) (sFor ei g eb) := by
  obtain ⟨t0, p0, s0⟩ := hi
  obtain ⟨t1, p1, s1⟩ := hg
  obtain ⟨t2, p2, s2⟩ := hb
  refine ⟨_, ps_for hp hc p0 p1 p2 hs, fun D sg H F m σ st S R P => s0 _ _ _ _ _ _ _ S R ((P.lift R).imp ?_)⟩
  rintro J H1 ⟨it, st1, F1, m1, x1, S1, r1, P1⟩
  refine ⟨fun i n' sg' H' => ∃ F' m' σ' st', Ext F1 m1 F' m' ∧ Sto X.K F' m' st' H' ∧ Rsl X.K F' m' sg' σ' ∧ PostS X.K X.mg W D F' m' (forLoop it.get g eb n' i σ' st'), ⟨it.n, F1, m1, σ, st1, Ext.refl F1 m1, S1, R.up x1, P1⟩, ?_⟩
  rintro i n' sg' H' ⟨F', m', σ', st', x', S', R', P'⟩
  cases n' with
  | zero => exact False.elim P'
  | succ k =>
    unfold forLoop at P'
    obtain ⟨q1, q2⟩ := r1 i F' m' st' H' x' S'
    cases hget : it.get i st' with
    | none => rw [hget] at P'; exact False.elim P'
    | some o =>
      rw [hget] at P'
      cases o with
      | none => exact .inl ⟨q1 hget, P'.nx S' R'⟩
      | some d =>
        obtain ⟨q3, q4⟩ := q2 d hget
        refine .inr ⟨q3, fun sg2 H2 => ∃ F2 m2 σ2 st2, Ext F1 m1 F2 m2 ∧ Sto X.K F2 m2 st2 H2 ∧ Rsl X.K F2 m2 sg2 σ2 ∧ PostS X.K X.mg W D F2 m2 (forLoop it.get g eb k (i + 1) σ2 st2), fun sg2 H2 h => ⟨k, Nat.lt_succ_self k, h⟩, fun x H2 hy => ?_⟩
        obtain ⟨F2, m2, x2, S2, rx⟩ := q4 x H2 hy
        dsimp only at P'
        cases hgd : g d σ' with
        | none => rw [hgd] at P'; exact False.elim P'
        | some σ1 =>
          rw [hgd] at P'
          refine s1 _ _ _ _ _ _ _ _ _ _ S2 (R'.up x2) rx hgd fun sg3 R3 => s2 _ _ _ _ _ _ _ S2 R3 ?_
          dsimp only at P'
          have P2 := P'.up x2
          cases h : eb σ1 st' with
          | nx σ2 st2 =>
            rw [h] at P2
            exact fun sg3 H3 F3 m3 x3 S3 R3 => ⟨F3, m3, σ2, st2, (x'.trans x2).trans x3, S3, R3, P2.up x3⟩
          | cnt σ2 st2 =>
            rw [h] at P2
            exact fun sg3 H3 F3 m3 x3 S3 R3 => ⟨F3, m3, σ2, st2, (x'.trans x2).trans x3, S3, R3, P2.up x3⟩
          | brk σ2 st2 => rw [h] at P2; exact P2
          | ret d st2 => rw [h] at P2; exact P2
          | exc e σ2 st2 => rw [h] at P2; exact P2
          | bad => rw [h] at P2; exact P2

/-! ### lists, tuples, ranges walked -/
/-- a fixed row of items -/
def itD (ds : List Fx.D) : Itr := ⟨ds.length + 1, fun i _ => some ds[i]?⟩
/-- a list as it stands at each turn; no more turns than items at the start -/
def itO (k n : Nat) : Itr := ⟨n + 1, fun i st => match st[k]? with
  | some (.lst l) => some l[i]?
  | _ => none⟩
@[simp] def iSeq (e : EE) : EI := fun σ st => (e σ st).bind fun d st1 => match d with
  | .tup ds => .ok (itD ds) st1
  | .rol ds => .ok (itD ds) st1
  | .lst ds => .ok (itD ds) st1
  | .own k => match st1[k]? with
    | some (.lst l) => .ok (itO k l.length) st1
    | _ => .bad
  | _ => .bad
@[simp] def iRng1' (a : EA) : EI := fun σ st => (a σ st).bind fun ds st1 => match ds with
  | [.int j] => if -1000000000000000000 ≤ j ∧ j ≤ 1000000000000000000 then .ok ⟨j.toNat + 1, fun i _ => some (if i < j.toNat then some (.int (i : Int)) else none)⟩ st1 else .bad
  | _ => .bad
def iRng2' (a : EA) : EI := fun σ st => (a σ st).bind fun ds st1 => match ds with
  | [.int j, .int k] => if -1000000000000000000 ≤ j ∧ j ≤ 1000000000000000000 ∧ -1000000000000000000 ≤ k ∧ k ≤ 1000000000000000000 then .ok ⟨(k - j).toNat + 1, fun i _ => some (if i < (k - j).toNat then some (.int (j + i)) else none)⟩ st1 else .bad
  | _ => .bad
section
variable {K : PySem.W.Frag}
theorem itl_rol {F : Hp} {m : Am} {a : Addr} {vs : List V} {ds : List Fx.D} (h1 : SqL K F a vs) (r : Rps K F m vs ds) : ItOk K F m (Itl K a) (itD ds) := by
  intro i F' m' st H x S
  have h2 : SqL K H a vs := sql_mono S.sub (sql_mono x.f h1)
  refine ⟨fun e => ⟨vs, h2, ?_⟩, fun d e => ?_⟩
  · have e' : ds[i]? = none := Option.some.inj e
    rw [r.length]
    exact List.getElem?_eq_none_iff.mp e'
  · have e' : ds[i]? = some d := Option.some.inj e
    obtain ⟨v, hv, rv⟩ := (r.up x).get' e'
    refine ⟨⟨vs, v, h2, hv⟩, fun y H' hy => ?_⟩
    obtain ⟨rfl, f⟩ := hy
    have ey := (f vs h2).symm.trans hv
    cases ey
    exact ⟨F', m', Ext.refl F' m', S, rv⟩
end
end
end Fx

set_option Elab.async false
set_option linter.all false
set_option maxRecDepth 100000
set_option maxHeartbeats 4000000
/-! Fx: what is walked, comprehensions -/
namespace Fx
open PySem PySem.Spec PyProof.Rows L2
section
variable {K : PySem.W.Frag}
theorem itt_tup {F : Hp} {m : Am} {a : Addr} {vs : List V} {ds : List Fx.D} (h1 : SqT K F a vs) (r : Rps K F m vs ds) : ItOk K F m (Itt K a) (itD ds) := by
  intro i F' m' st H x S
  have h2 : SqT K H a vs := sqt_mono S.sub (sqt_mono x.f h1)
  refine ⟨fun e => ⟨vs, h2, ?_⟩, fun d e => ?_⟩
  · have e' : ds[i]? = none := Option.some.inj e
    rw [r.length]
    exact List.getElem?_eq_none_iff.mp e'
  · have e' : ds[i]? = some d := Option.some.inj e
    obtain ⟨v, hv, rv⟩ := (r.up x).get' e'
    refine ⟨⟨vs, v, h2, hv⟩, fun y H' hy => ?_⟩
    obtain ⟨rfl, f⟩ := hy
    have ey := (f vs h2).symm.trans hv
    cases ey
    exact ⟨F', m', Ext.refl F' m', S, rv⟩
theorem itl_own {F : Hp} {m : Am} {a : Addr} {k n : Nat} (h1 : m[k]? = some a) : ItOk K F m (Itl K a) (itO k n) := by
  intro i F' m' st H x S
  have own : ∀ l, st[k]? = some (.lst l) → ∃ vs, H a = some (.lst vs) ∧ Rps K F' m' vs l := fun l hl => by
    obtain ⟨_, vs, h2, h3⟩ := S.cell k _ a hl (x.m _ _ h1)
    exact ⟨vs, h2, h3⟩
  refine ⟨fun e => ?_, fun d e => ?_⟩
  · unfold itO at e
    dsimp only at e
    split at e
    · rename_i l hl
      obtain ⟨vs, h2, h3⟩ := own l hl
      have e' : l[i]? = none := Option.some.inj e
      exact ⟨vs, .inl (.inl h2), by rw [h3.length]; exact List.getElem?_eq_none_iff.mp e'⟩
    · cases e
  · unfold itO at e
    dsimp only at e
    split at e
    · rename_i l hl
      obtain ⟨vs, h2, h3⟩ := own l hl
      have e' : l[i]? = some d := Option.some.inj e
      obtain ⟨v, hv, rv⟩ := h3.get' e'
      refine ⟨⟨vs, v, .inl (.inl h2), hv⟩, fun y H' hy => ?_⟩
      obtain ⟨rfl, f⟩ := hy
      have ey := (f vs (.inl (.inl h2))).symm.trans hv
      cases ey
      exact ⟨F', m', Ext.refl F' m', S, rv⟩
    · cases e
theorem itr_rng {F : Hp} {m : Am} {lo : Int} {n k : Nat} : ItOk K F m (L2.Itr lo n) ⟨k, fun i _ => some (if i < n then some (.int (lo + i)) else none)⟩ := by
  intro i F' m' st H x S
  dsimp only
  refine ⟨fun e => ?_, fun d e => ?_⟩
  · have e' := Option.some.inj e
    split at e'
    · cases e'
    · show n ≤ i
      omega
  · have e' := Option.some.inj e
    split at e'
    · rename_i hi
      cases e'
      refine ⟨hi, fun y H' hy => ?_⟩
      obtain ⟨rfl, rfl⟩ := hy
      exact ⟨F', m', Ext.refl F' m', S, .int _⟩
    · cases e'
end
section
variable {X : Cx} {W : WX} {tg e a b : Expr} {ee : EE} {aa : EA} {pos p : Pos}
theorem pi_or {wi wi' : TI} (h : PI X tg e wi) (h' : PI X tg e wi') : PI X tg e (fun σ H R => wi σ H R ∨ wi' σ H R) :=
  ⟨fun pins s σ H R I q => q.elim (h.run pins s σ H R I) (h'.run pins s σ H R I)⟩
theorem fi_seq (he : FE X W e ee) : FI X W tg e (iSeq ee) := by
  obtain ⟨t1, p1, s1⟩ := he
  refine ⟨_, pi_or (pi_list p1) (pi_tup p1), fun sg H F m σ st Q S R P => ?_⟩
  unfold iSeq at P
  cases hx : ee σ st with
  | bad => rw [hx] at P; exact False.elim P
  | exc n st' =>
    refine .inl (s1 _ _ _ _ _ _ _ S R ?_)
    rw [hx] at P ⊢
    exact P
  | ok d st' =>
    rw [hx] at P
    cases d with
    | tup ds =>
      refine .inr (s1 _ _ _ _ _ _ _ S R ?_)
      rw [hx]
      intro v H' F' m' x S' r
      cases r with
      | tup h1 h2 => exact ⟨_, rfl, ⟨_, sqt_mono S'.sub h1.sqt⟩, (Post.up P x).ok S' (itt_tup h1.sqt h2)⟩
    | rol ds =>
      refine .inl (s1 _ _ _ _ _ _ _ S R ?_)
      rw [hx]
      intro v H' F' m' x S' r
      cases r with
      | rol h1 h2 => exact ⟨_, rfl, ⟨_, sql_mono S'.sub h1⟩, (Post.up P x).ok S' (itl_rol h1 h2)⟩
    | lst ds =>
      refine .inl (s1 _ _ _ _ _ _ _ S R ?_)
      rw [hx]
      intro v H' F' m' x S' r
      cases r with
      | lst h1 h2 => exact ⟨_, rfl, ⟨_, .inl (.inl (S'.sub _ _ h1))⟩, (Post.up P x).ok S' (itl_rol (.inl (.inl h1)) h2)⟩
    | own k =>
      refine .inl (s1 _ _ _ _ _ _ _ S R ?_)
      rw [hx]
      intro v H' F' m' x S' r
      have P0 : Post X.K X.mg W sg (relI X.K) F m (match st'[k]? with
        | some (.lst l) => .ok (itO k l.length) st'
        | _ => .bad) Q := P
      cases r with
      | own h1 =>
        split at P0
        · rename_i l hl
          obtain ⟨_, vs, h2, h3⟩ := S'.cell k _ _ hl h1
          exact ⟨_, rfl, ⟨vs, .inl (.inl h2)⟩, (Post.up P0 x).ok S' (itl_own h1)⟩
        · exact False.elim P0
    | non => exact False.elim P
    | bl _ => exact False.elim P
    | int _ => exact False.elim P
    | str _ => exact False.elim P
    | glo _ => exact False.elim P
theorem fi_range1 (hg : Gl X "range") (hm : X.mg "range" = none) (ha : FA X W [a] aa) (hs : starEach [a] X.env = [(false, eval a X.env)] := by rfl) : FI X W tg (.Call (.Name "range" p) [a] [] pos) (iRng1' aa) := by
  obtain ⟨t1, p1, s1⟩ := ha
  refine ⟨_, pi_range1 hg hm p1 hs, fun sg H F m σ st Q S R P => s1 _ _ _ _ _ _ _ S R (P.bind.imp ?_)⟩
  rintro vs H1 ⟨ds, st1, F1, m1, x1, S1, r1, P1⟩
  dsimp only at P1
  split at P1
  · obtain ⟨x, rfl, rx⟩ := rps1 r1
    cases rx
    obtain ⟨⟨c1, c2⟩, P1⟩ := post_ite P1
    refine ⟨_, rfl, by omega, by omega, P1.ok S1 ?_⟩
    have h := itr_rng (K := X.K) (F := F1) (m := m1) (lo := 0) (n := Int.toNat ‹Int›) (k := Int.toNat ‹Int› + 1)
    simp only [Int.zero_add] at h
    exact h
  · exact False.elim P1
theorem fi_range2 (hg : Gl X "range") (hm : X.mg "range" = none) (ha : FA X W [a, b] aa) (hs : starEach [a, b] X.env = [(false, eval a X.env), (false, eval b X.env)] := by rfl) (hs2 : starEach [b] X.env = [(false, eval b X.env)] := by rfl) : FI X W tg (.Call (.Name "range" p) [a, b] [] pos) (iRng2' aa) := by
  obtain ⟨t1, p1, s1⟩ := ha
  refine ⟨_, pi_range2 hg hm p1 hs hs2, fun sg H F m σ st Q S R P => s1 _ _ _ _ _ _ _ S R (P.bind.imp ?_)⟩
  rintro vs H1 ⟨ds, st1, F1, m1, x1, S1, r1, P1⟩
  dsimp only at P1
  split at P1
  · obtain ⟨x, y, rfl, rx, ry⟩ := rps2 r1
    cases rx; cases ry
    obtain ⟨⟨c1, c2, c3, c4⟩, P1⟩ := post_ite P1
    exact ⟨_, _, rfl, ⟨by omega, by omega, by omega, by omega⟩, P1.ok S1 itr_rng⟩
  · exact False.elim P1

/-! ### comprehensions -/
def tTrue : ET := fun _ st => .ok true st
def wipeD (σ : Slots) : List Nat → Slots
  | [] => σ
  | v :: vs => (wipeD σ vs).set v none
/-- a comprehension from turn i on; the list that is made stands in cell k -/
def compLoop (get : Nat → Store → Option (Option Fx.D)) (g : GE) (c : ET) (e : EE) (σ : Slots) (k : Nat) : Nat → Nat → Store → R Fx.D
  | 0, _, _ => .bad
  | n + 1, i, st => match get i st with
    | none => .bad
    | some none => .ok (.own k) st
    | some (some d) => match g d σ with
      | none => .bad
      | some σ1 => (c σ1 st).bind fun b st1 => if b then (e σ1 st1).bind fun y st2 => match st2[k]? with
        | some (.lst acc) => if acc.length < 16777216 then compLoop get g c e σ k n (i + 1) (st2.set k (.lst (acc ++ [y]))) else .bad
        | _ => .bad else compLoop get g c e σ k n (i + 1) st1
def eComp (ei : EI) (g : GE) (c : ET) (e : EE) (own : List Nat) : EE := fun σ st => (ei σ st).bind fun it st1 => compLoop it.get g c e (wipeD σ own) st1.length it.n 0 (st1 ++ [.lst []])
theorem rsl_wipe {K : PySem.W.Frag} {F : Hp} {m : Am} {sg : Sl} {σ : Slots} (h : Rsl K F m sg σ) : ∀ vs : List Nat, Rsl K F m (wipe sg vs) (wipeD σ vs)
  | [] => h
  | v :: vs => (rsl_wipe h vs).del v none
/-- a target writes the wiped slots alone -/
def SmGw (K : PySem.W.Frag) (own : List Nat) (g : TG) (f : GE) : Prop := ∀ sg H F m σ st v d σ' Q, Sto K F m st H → Rsl K F m sg σ → Rp K F m v d → f d σ = some σ' → (∀ sg', Rsl K F m sg' σ' → wipe sg' own = wipe sg own → Q sg' H) → g v sg H Q
def SmGws (K : PySem.W.Frag) (own : List Nat) (g : TGs) (f : GEs) : Prop := ∀ sg H F m σ st v d σ' Q, Sto K F m st H → Rsl K F m sg σ → Rps K F m v d → f d σ = some σ' → (∀ sg', Rsl K F m sg' σ' → wipe sg' own = wipe sg own → Q sg' H) → g v sg H Q
def FGw (X : Cx) (own : List Nat) (e : Expr) (f : GE) : Prop := ∃ g, PG X e g ∧ SmGw X.K own g f
def FGws (X : Cx) (own : List Nat) (es : List Expr) (f : GEs) : Prop := ∃ g, PGs X es g ∧ SmGws X.K own g f
theorem wipe_key {v : V} : ∀ (own : List Nat) (i : Nat) (s : Sl), i ∈ own → wipe (s.set i (some v)) own = wipe s own := by
  intro own
  induction own with
  | nil => intro i s h; cases h
  | cons a own ih =>
    intro i s h
    by_cases e : i = a
    · subst e
      have h2 : ∀ (o : List Nat), (wipe (s.set i (some v)) o).set i none = (wipe s o).set i none := by
        intro o
        induction o with
        | nil => exact List.set_set ..
        | cons b o ih2 =>
          show ((wipe (s.set i (some v)) o).set b none).set i none = ((wipe s o).set b none).set i none
          by_cases eb : b = i
          · subst eb
            rw [List.set_set, List.set_set]
            exact ih2
          · rw [List.set_comm _ _ eb, ih2, List.set_comm _ _ (Ne.symm eb)]
      exact h2 own
    · have hi : i ∈ own := (List.mem_cons.mp h).resolve_left e
      show (wipe (s.set i (some v)) own).set a none = (wipe s own).set a none
      rw [ih i s hi]
theorem wipe_none : ∀ (own : List Nat) (a : Nat) (s : Sl), wipe (s.set a none) own = (wipe s own).set a none := by
  intro own
  induction own with
  | nil => intro a s; rfl
  | cons b own ih =>
    intro a s
    show (wipe (s.set a none) own).set b none = ((wipe s own).set b none).set a none
    rw [ih]
    by_cases e : a = b
    · subst e; rfl
    · exact List.set_comm _ _ e
theorem wipe_idem : ∀ (own : List Nat) (s : Sl), wipe (wipe s own) own = wipe s own := by
  intro own
  induction own with
  | nil => intro s; rfl
  | cons a own ih =>
    intro s
    show (wipe ((wipe s own).set a none) own).set a none = (wipe s own).set a none
    rw [wipe_none, ih, List.set_set]
theorem fgw_name {own : List Nat} {i : Nat} {x : Str} (ho : i ∈ own) (hN : X.N.Nodup) (hi : X.N[i]? = some x) (hx : Loc X.env.scope x) (hf : X.fn x = true ∨ X.env.scope.names.lookup x = some .local := by first | exact .inl rfl | exact .inr rfl) : FGw X own (.Name x pos) (gN i) :=
  ⟨_, pg_name hN hi hx hf, fun sg H F m σ st v d σ' Q S R r e q => by
    cases e
    exact q _ (R.set r i) (wipe_key own i sg ho)⟩
theorem fgws_nil {own : List Nat} : FGws X own [] gNone := ⟨_, pgs_nil, fun sg H F m σ st v d σ' Q S R r e q => by
  cases r with
  | nil => cases e; exact ⟨rfl, q _ R rfl⟩
  | cons _ _ => cases e⟩
theorem fgws_cons {own : List Nat} {e : Expr} {es : List Expr} {g : GE} {r : GEs} (h1 : FGw X own e g) (h2 : FGws X own es r) (hs : (assignEach (e :: es) X.env).map (·.2) = assign e X.env :: (assignEach es X.env).map (·.2) := by rfl) : FGws X own (e :: es) (gMore g r) := by
  obtain ⟨t1, p1, s1⟩ := h1
  obtain ⟨t2, p2, s2⟩ := h2
  refine ⟨_, pgs_cons p1 p2 hs, fun sg H F m σ st v d σ' Q S R r e q => ?_⟩
  cases r with
  | nil => cases e
  | cons r1 r2 =>
    unfold gMore at e
    dsimp only at e
    split at e
    · rename_i σ1 h1
      exact ⟨_, _, rfl, s1 _ _ _ _ _ _ _ _ _ _ S R r1 h1 fun sg1 R1 w1 => s2 _ _ _ _ _ _ _ _ _ _ S R1 r2 e fun sg2 R2 w2 => q sg2 R2 (w2.trans w1)⟩
    · cases e
theorem fgw_tup {own : List Nat} {es : List Expr} {k : Nat} {r : GEs} {n : Nat} (hc : X.calm = true) (h : FGws X own es r) (ht : Takes1 r n) (hn : (assignEach es X.env).length = n := by rfl) (hst : (assignEach es X.env).findIdx? (·.1) = none := by rfl) : FGw X own (.Tuple es k pos) (gT r) := by
  obtain ⟨t1, p1, s1⟩ := h
  refine ⟨_, pg_tup hc p1 hn hst, fun sg H F m σ st v d σ' Q S R r e q => ?_⟩
  unfold gT at e
  split at e
  · obtain ⟨a, vs, rfl, h1, r1⟩ := tup_at S r
    exact ⟨a, vs, rfl, h1, by rw [r1.length]; exact ht _ _ _ e, s1 _ _ _ _ _ _ _ _ _ _ S R r1 e q⟩
  · cases e
/-- a comprehension's tests -/
def FTs (X : Cx) (W : WX) (ifs : List Expr) (ev : ET) : Prop := ∃ t, PTs X ifs t ∧ SmT X.K X.mg W t ev
theorem fts_nil : FTs X W [] tTrue := ⟨_, pts_nil, fun sg H F m σ st Q S R P => P.ok S rfl⟩
theorem fts_one {c : Expr} {ec : ET} (h : FT X W c ec) : FTs X W [c] ec := let ⟨t, p, s⟩ := h; ⟨_, pts_one p, s⟩
/-- one reading for all contexts -/
theorem all_e {ι : Sort _} {Xs : ι → Cx} {K : PySem.W.Frag} {mg : Str → Option Value} (hK : ∀ i, (Xs i).K = K) (hM : ∀ i, (Xs i).mg = mg) (h : ∀ i, FE (Xs i) W e ee) : ∃ t, (∀ i, PE (Xs i) e t) ∧ SmE K mg W t ee := by
  have h' : ∀ i, ∃ t, PE (Xs i) e t ∧ SmE K mg W t ee := fun i => by
    have q := h i
    unfold FE at q
    rw [hK i, hM i] at q
    exact q
  exact ⟨fun σ H Q => ∀ i, (h' i).choose σ H Q, fun i => ⟨fun pins s σ H Q I q => (h' i).choose_spec.1.run pins s σ H Q I (q i)⟩, fun sg H F m σ st Q S R P i => (h' i).choose_spec.2 _ _ _ _ _ _ _ S R P⟩
theorem all_t {ι : Sort _} {Xs : ι → Cx} {K : PySem.W.Frag} {mg : Str → Option Value} {ifs : List Expr} {ec : ET} (hK : ∀ i, (Xs i).K = K) (hM : ∀ i, (Xs i).mg = mg) (h : ∀ i, FTs (Xs i) W ifs ec) : ∃ t, (∀ i, PTs (Xs i) ifs t) ∧ SmT K mg W t ec := by
  have h' : ∀ i, ∃ t, PTs (Xs i) ifs t ∧ SmT K mg W t ec := fun i => by
    have q := h i
    unfold FTs at q
    rw [hK i, hM i] at q
    exact q
  exact ⟨fun σ H Q => ∀ i, (h' i).choose σ H Q, fun i => ⟨fun pins s σ H Q I q => (h' i).choose_spec.1.run pins s σ H Q I (q i)⟩, fun sg H F m σ st Q S R P i => (h' i).choose_spec.2 _ _ _ _ _ _ _ S R P⟩
theorem all_g {ι : Sort _} {Xs : ι → Cx} {K : PySem.W.Frag} {own : List Nat} {g : GE} (hK : ∀ i, (Xs i).K = K) (h : ∀ i, FGw (Xs i) own tg g) : ∃ t, (∀ i, PG (Xs i) tg t) ∧ SmGw K own t g := by
  have h' : ∀ i, ∃ t, PG (Xs i) tg t ∧ SmGw K own t g := fun i => by
    have q := h i
    unfold FGw at q
    rw [hK i] at q
    exact q
  exact ⟨fun v σ H Q => ∀ i, (h' i).choose v σ H Q, fun i => ⟨fun pins s σ H v u Q I r q => (h' i).choose_spec.1.run pins s σ H v u Q I r (q i)⟩, fun sg H F m σ st v d σ' Q S R r e q i => (h' i).choose_spec.2 _ _ _ _ _ _ _ _ _ _ S R r e q⟩
abbrev W0 : WX := fun _ _ _ _ => False
abbrev BlkI := Shared × Hp × Addr × List (Str × Addr) × List Addr
abbrev blkX (X : Cx) (scope : Scope) (i : BlkI) : Cx := X.blk i.1 i.2.1 scope (compEnvC scope i.2.2.2.1 i.2.2.1 X.env) i.2.2.2.2
/-- within a comprehension nothing may be raised -/
def noX {α : Type} (r : R α) : R α := match r with
  | .exc _ _ => .bad
  | r => r
theorem post_noX {K : PySem.W.Frag} {mg : Str → Option Value} {sg sg' : Sl} {α β : Type} {rel : Hp → Am → β → α → Prop} {F : Hp} {m : Am} {r : R α} {Q : β → Hp → Prop} (P : Post K mg W sg rel F m (noX r) Q) : Post K mg W0 sg' rel F m r Q := by
  cases r with
  | ok a st => exact P
  | exc n st => exact False.elim P
  | bad => exact P
theorem sm_comp {K : PySem.W.Frag} {mg : Str → Option Value} {wi : TI} {ei : EI} {tgR : TG} {gE : GE} {tt : TT} {te : TE} {ec : ET} {own : List Nat} (s0 : SmI K mg W wi ei) (s1 : SmGw K own tgR gE) (s2 : SmT K mg W0 tt ec) (s3 : SmE K mg W0 te ee) :
    SmE K mg W (tLc wi tgR tt te own) (eComp ei gE (fun s t => noX (ec s t)) (fun s t => noX (ee s t)) own) := by
  refine fun sg H F m σ st Q S R P => s0 _ _ _ _ _ _ _ S R (P.bind.imp ?_)
  rintro J H1 ⟨it, st1, F1, m1, x1, S1, r1, P1⟩
  intro p hp
  have fF : F1 p = none := by
    cases h : F1 p with
    | none => rfl
    | some u => rw [S1.sub _ _ h] at hp; cases hp
  have S2 : Sto K F1 (m1 ++ [p]) (st1 ++ [.lst []]) (upd H1 p (.lst [])) := S1.newCell hp ⟨fF, [], upd_same, .nil⟩
  have hk : (m1 ++ [p])[st1.length]? = some p := by rw [← S1.len]; exact get_snoc _ _
  refine ⟨fun i n H' => ∃ F' m' st', Ext F1 m1 F' m' ∧ m'[st1.length]? = some p ∧ Sto K F' m' st' H' ∧ Post K mg W sg (relE K) F' m' (compLoop it.get gE (fun s t => noX (ec s t)) (fun s t => noX (ee s t)) (wipeD σ own) st1.length n i st') Q,
    ⟨it.n, F1, m1 ++ [p], _, ext_snoc, hk, S2, P1.up ext_snoc⟩, ?_⟩
  rintro i n H' ⟨F', m', st', x', hk', S', P'⟩
  cases n with
  | zero => exact False.elim P'
  | succ n =>
    unfold compLoop at P'
    obtain ⟨q1, q2⟩ := r1 i F' m' st' H' x' S'
    cases hget : it.get i st' with
    | none => rw [hget] at P'; exact False.elim P'
    | some o =>
      rw [hget] at P'
      cases o with
      | none => exact .inl ⟨q1 hget, P'.ok S' (.own hk')⟩
      | some d =>
        obtain ⟨q3, q4⟩ := q2 d hget
        dsimp only at P'
        refine .inr ⟨q3, fun H2 => ∃ F2 m2 st2, Ext F1 m1 F2 m2 ∧ m2[st1.length]? = some p ∧ Sto K F2 m2 st2 H2 ∧ Post K mg W sg (relE K) F2 m2 (compLoop it.get gE (fun s t => noX (ec s t)) (fun s t => noX (ee s t)) (wipeD σ own) st1.length n (i + 1) st2) Q,
          fun H2 h => ⟨n, Nat.lt_succ_self n, h⟩, fun x H2 hy => ?_⟩
        obtain ⟨F2, m2, x2, S2, rx⟩ := q4 x H2 hy
        cases hgd : gE d (wipeD σ own) with
        | none => rw [hgd] at P'; exact False.elim P'
        | some σ1 =>
          rw [hgd] at P'
          dsimp only at P'
          refine s1 _ _ _ _ _ _ _ _ _ _ S2 (rsl_wipe (((R.up x1).up x').up x2) _) rx hgd fun sg3 R3 w3 => ⟨w3.trans (wipe_idem _ _), ?_⟩
          have P2 := Post.up P' x2
          refine s2 _ _ _ _ _ _ _ S2 R3 (post_noX (P2.bind.imp ?_))
          rintro b H3 ⟨b2, st3, F3, m3, x3, S3, r3, P3⟩
          cases r3
          cases b with
          | false => exact ⟨F3, m3, st3, (x'.trans x2).trans x3, x3.m _ _ (x2.m _ _ hk'), S3, P3⟩
          | true =>
            refine s3 _ _ _ _ _ _ _ S3 (R3.up x3) (post_noX ((show Post K mg W sg (relE K) F3 m3 ((noX (ee σ1 st3)).bind fun y st2 => match st2[st1.length]? with
              | some (.lst acc) => if acc.length < 16777216 then compLoop it.get gE (fun s t => noX (ec s t)) (fun s t => noX (ee s t)) (wipeD σ own) st1.length n (i + 1) (st2.set st1.length (.lst (acc ++ [y]))) else .bad
              | _ => .bad) Q from P3).bind.imp ?_))
            rintro y H4 ⟨d4, st4, F4, m4, x4, S4, r4, P4⟩
            have hk4 := x4.m _ _ (x3.m _ _ (x2.m _ _ hk'))
            dsimp only at P4
            split at P4
            · rename_i acc hacc
              obtain ⟨c, P4⟩ := post_ite P4
              obtain ⟨f4, vs, h4, r5⟩ := S4.cell _ _ p hacc hk4
              refine ⟨vs, h4, lt16 (by rw [r5.length]; exact c), F4, m4, _, ((x'.trans x2).trans x3).trans x4, hk4, S4.write (c := .lst (acc ++ [d4])) hk4 ⟨f4, _, upd_same, r5.append (.cons r4 .nil)⟩, P4⟩
            · exact False.elim P4

theorem fe_comp {iter elt : Expr} {ifs : List Expr} {scope : Scope} {own : List (Str × Nat)} {ei : EI} {gE : GE} {ec : ET} (hc : X.calm = true) (hN : X.N.Nodup) (hi : FI X W tg iter ei) (ok : BlkOk X.N X.env.scope scope own)
    (hg : ∀ i : BlkI, FGw (blkX X scope i) (own.map (·.2)) tg gE) (ht : ∀ i : BlkI, FTs (blkX X scope i) W0 ifs ec) (he : ∀ i : BlkI, FE (blkX X scope i) W0 elt ee) (hs : ∀ x, foldedSetIterable iter X.env x = pure x := by intro _; rfl) :
    FE X W (.ListComp elt [⟨tg, iter, ifs, 0⟩] scope pos) (eComp ei gE (fun s t => noX (ec s t)) (fun s t => noX (ee s t)) (own.map (·.2))) := by
  obtain ⟨wi, p0, s0⟩ := hi
  obtain ⟨tgR, p1, s1⟩ := all_g (Xs := blkX X scope) (fun _ => rfl) hg
  obtain ⟨tt, p2, s2⟩ := all_t (Xs := blkX X scope) (fun _ => rfl) (fun _ => rfl) ht
  obtain ⟨te, p3, s3⟩ := all_e (Xs := blkX X scope) (fun _ => rfl) (fun _ => rfl) he
  exact ⟨_, pe_lc hc hN p0 ok (fun s H C cl fp => p1 (s, H, C, cl, fp)) (fun s H C cl fp => p2 (s, H, C, cl, fp)) (fun s H C cl fp => p3 (s, H, C, cl, fp)) hs, sm_comp s0 s1 s2 s3⟩
/-- name = [..] on one line -/
theorem fs_comp {i : Nat} {y : Str} {py spos : Pos} {iter elt : Expr} {ifs : List Expr} {scope : Scope} {own : List (Str × Nat)} {ei : EI} {gE : GE} {ec : ET} (hc : X.calm = true) (hN : X.N.Nodup) (hy : X.N[i]? = some y) (hyl : X.env.scope.names.lookup y = some .local)
    (hsw : swapsWith (.ListComp elt [⟨tg, iter, ifs, 0⟩] scope pos) (some (.Name y py)) spos.line X.env = pure true) (hi : FI X W tg iter ei) (ok : BlkOk X.N X.env.scope scope own)
    (hg : ∀ i : BlkI, FGw (blkX X scope i) (own.map (·.2)) tg gE) (ht : ∀ i : BlkI, FTs (blkX X scope i) W0 ifs ec) (he : ∀ i : BlkI, FE (blkX X scope i) W0 elt ee) (hs : ∀ x, foldedSetIterable iter X.env x = pure x := by intro _; rfl) :
    FS X W (.Assign [.Name y py] (.ListComp elt [⟨tg, iter, ifs, 0⟩] scope pos) spos) (sAsg (eComp ei gE (fun s t => noX (ec s t)) (fun s t => noX (ee s t)) (own.map (·.2))) (gN i)) := by
  obtain ⟨wi, p0, s0⟩ := hi
  obtain ⟨tgR, p1, s1⟩ := all_g (Xs := blkX X scope) (fun _ => rfl) hg
  obtain ⟨tt, p2, s2⟩ := all_t (Xs := blkX X scope) (fun _ => rfl) (fun _ => rfl) ht
  obtain ⟨te, p3, s3⟩ := all_e (Xs := blkX X scope) (fun _ => rfl) (fun _ => rfl) he
  refine ⟨_, ps_setLc hc hN hy hyl hsw p0 ok (fun s H C cl fp => p1 (s, H, C, cl, fp)) (fun s H C cl fp => p2 (s, H, C, cl, fp)) (fun s H C cl fp => p3 (s, H, C, cl, fp)) hs, fun D sg H F m σ st S R P => sm_comp s0 s1 s2 s3 _ _ _ _ _ _ _ S R ((P.lift R).imp ?_)⟩
  rintro v H1 ⟨d, st1, F1, m1, x1, S1, r1, P1⟩
  exact P1.nx S1 ((R.up x1).set r1 i)
end
end Fx

set_option Elab.async false
set_option linter.all false
set_option maxRecDepth 100000
set_option maxHeartbeats 4000000
/-! Fx: defs: what they promise, their calls -/
namespace Fx
open PySem PySem.Spec PyProof.Rows L2

abbrev Fn := List D → Store → R D
/-! ### data without cells -/
mutual
def pureD : D → Bool
  | .tup ds => purL ds
  | .lst ds => purL ds
  | .rol ds => purL ds
  | .own _ => false
  | .non => true
  | .bl _ => true
  | .int _ => true
  | .str _ => true
  | .glo _ => true
def purL : List D → Bool
  | [] => true
  | d :: ds => pureD d && purL ds
end
def pureC : Cell → Bool
  | .lst ds => purL ds
  | .dic kvs => purL (kvs.map (·.2))
mutual
def belowD (n : Nat) : D → Bool
  | .tup ds => belL n ds
  | .lst ds => belL n ds
  | .rol ds => belL n ds
  | .own k => decide (k < n)
  | .non => true
  | .bl _ => true
  | .int _ => true
  | .str _ => true
  | .glo _ => true
def belL (n : Nat) : List D → Bool
  | [] => true
  | d :: ds => belowD n d && belL n ds
end
section
variable {K : PySem.W.Frag} {F F' : Hp} {m m' : Am}
mutual
theorem rp_pure (h : ∀ a u, F a = some u → F' a = some u) : ∀ (d : D) (v : V), pureD d = true → Rp K F m v d → Rp K F' m' v d
  | .non, _, _, r => by cases r; exact .non
  | .bl b, _, _, r => by cases r; exact .bl b
  | .int i, _, _, r => by cases r; exact .int i
  | .str x, _, _, r => by cases r; exact .str x
  | .tup ds, _, p, r => by cases r with | tup h1 h2 => exact .tup (tupf_mono h h1) (rps_pure h ds _ p h2)
  | .lst ds, _, p, r => by cases r with | lst h1 h2 => exact .lst (h _ _ h1) (rps_pure h ds _ p h2)
  | .rol ds, _, p, r => by cases r with | rol h1 h2 => exact .rol (sql_mono h h1) (rps_pure h ds _ p h2)
  | .own k, _, p, r => by cases p
  | .glo a, _, _, r => by cases r; exact .glo a
theorem rps_pure (h : ∀ a u, F a = some u → F' a = some u) : ∀ (ds : List D) (vs : List V), purL ds = true → Rps K F m vs ds → Rps K F' m' vs ds
  | [], _, _, r => by cases r; exact .nil
  | d :: ds, _, p, r => by
    cases r with
    | cons r1 r2 =>
      have p' : (pureD d && purL ds) = true := p
      rw [Bool.and_eq_true] at p'
      exact .cons (rp_pure h d _ p'.1 r1) (rps_pure h ds _ p'.2 r2)
end
mutual
theorem rp_below : ∀ (d : D) (v : V), Rp K F m v d → belowD m.length d = true
  | .non, _, r => rfl
  | .bl b, _, r => rfl
  | .int i, _, r => rfl
  | .str x, _, r => rfl
  | .tup ds, _, r => by cases r with | tup h1 h2 => exact rps_below ds _ h2
  | .lst ds, _, r => by cases r with | lst h1 h2 => exact rps_below ds _ h2
  | .rol ds, _, r => by cases r with | rol h1 h2 => exact rps_below ds _ h2
  | .own k, _, r => by cases r with | own h1 => exact decide_eq_true (List.getElem?_eq_some_iff.mp h1).1
  | .glo a, _, r => rfl
theorem rps_below : ∀ (ds : List D) (vs : List V), Rps K F m vs ds → belL m.length ds = true
  | [], _, r => rfl
  | d :: ds, _, r => by
    cases r with
    | cons r1 r2 =>
      show (belowD m.length d && belL m.length ds) = true
      rw [rp_below d _ r1, rps_below ds _ r2]
      rfl
end
mutual
theorem rp_cut {n : Nat} (h : ∀ a u, F a = some u → F' a = some u) : ∀ (d : D) (v : V), belowD n d = true → Rp K F m v d → Rp K F' (m.take n) v d
  | .non, _, _, r => by cases r; exact .non
  | .bl b, _, _, r => by cases r; exact .bl b
  | .int i, _, _, r => by cases r; exact .int i
  | .str x, _, _, r => by cases r; exact .str x
  | .tup ds, _, p, r => by cases r with | tup h1 h2 => exact .tup (tupf_mono h h1) (rps_cut h ds _ p h2)
  | .lst ds, _, p, r => by cases r with | lst h1 h2 => exact .lst (h _ _ h1) (rps_cut h ds _ p h2)
  | .rol ds, _, p, r => by cases r with | rol h1 h2 => exact .rol (sql_mono h h1) (rps_cut h ds _ p h2)
  | .own k, _, p, r => by
    cases r with
    | own h1 =>
      have hk : k < n := of_decide_eq_true p
      exact .own (by rw [List.getElem?_take_of_lt hk]; exact h1)
  | .glo a, _, _, r => by cases r; exact .glo a
theorem rps_cut {n : Nat} (h : ∀ a u, F a = some u → F' a = some u) : ∀ (ds : List D) (vs : List V), belL n ds = true → Rps K F m vs ds → Rps K F' (m.take n) vs ds
  | [], _, _, r => by cases r; exact .nil
  | d :: ds, _, p, r => by
    cases r with
    | cons r1 r2 =>
      have p' : (belowD n d && belL n ds) = true := p
      rw [Bool.and_eq_true] at p'
      exact .cons (rp_cut h d _ p'.1 r1) (rps_cut h ds _ p'.2 r2)
end
end

/-! ### what leaves a def: its own cells become fixed lists -/
def mapO (f : D → Option D) : List D → Option (List D)
  | [] => some []
  | d :: ds => match f d, mapO f ds with
    | some x, some xs => some (x :: xs)
    | _, _ => none
def frz (n : Nat) (st : Store) : Nat → D → Option D
  | 0, _ => none
  | f + 1, d => match d with
    | .tup ds => match mapO (frz n st f) ds with
      | some l => some (.tup l)
      | none => none
    | .own k => if k < n then some (.own k) else match st[k]? with
      | some (.lst ds) => match mapO (frz n st f) ds with
        | some l => some (.lst l)
        | none => none
      | _ => none
    | .lst ds => if purL ds = true then some (.lst ds) else none
    | .rol ds => if purL ds = true then some (.rol ds) else none
    | d => some d
def frzT (n : Nat) (st : Store) (d : D) : Option D := if pureD d = true then some d else frz n st 9 d
def keepsB (n : Nat) (st0 st : Store) : Prop := ∀ k, k < n → st[k]? = st0[k]? ∨ ∃ c, st[k]? = some c ∧ pureC c = true
open Classical in
noncomputable def finD (st0 : Store) (d : D) (st : Store) : R D := if keepsB st0.length st0 st then (match frzT st0.length st d with
  | some d' => .ok d' (st.take st0.length)
  | none => .bad) else .bad
open Classical in
noncomputable def finX (st0 : Store) (e : Exn) (st : Store) : R D := if keepsB st0.length st0 st ∧ ∀ x, e.2 = some x → pureD x = true then .exc e (st.take st0.length) else .bad
/-- the slots at a def's entry -/
@[simp] def startD (nl : Nat) (ds : List D) : Slots := ds.map some ++ List.replicate (nl - ds.length) none
noncomputable def runF (n nl : Nat) (body : SE) : Fn := fun ds st => if ds.length = n then (match body (startD nl ds) st with
  | .nx _ st' => finD st .non st'
  | .ret d st' => finD st d st'
  | .exc e _ st' => finX st e st'
  | _ => .bad) else .bad
/-- what is handed back is the caller's own -/
def runR (n nl : Nat) (body : SE) : Fn := fun ds st => if ds.length = n then (match body (startD nl ds) st with
  | .nx _ st' => .ok .non st'
  | .ret d st' => .ok d st'
  | .exc e _ st' => .exc e st'
  | _ => .bad) else .bad
section
variable {K : PySem.W.Frag} {mg : Str → Option Value} {F H : Hp} {m : Am} {st : Store} {n : Nat}
/-- the fixed heap behind a def -/
noncomputable def fixH (F H : Hp) (m : Am) (n : Nat) : Hp := fun a => match F a with
  | some u => some u
  | none => open Classical in if ∃ k, n ≤ k ∧ m[k]? = some a then H a else none
theorem fix_f (F H : Hp) (m : Am) (n : Nat) : ∀ a u, F a = some u → fixH F H m n a = some u := fun a u h => by
  unfold fixH
  rw [h]
theorem fix_at {a : Addr} {k : Nat} (hF : F a = none) (hk : n ≤ k) (hm : m[k]? = some a) : fixH F H m n a = H a := by
  unfold fixH
  rw [hF]
  exact if_pos ⟨k, hk, hm⟩
theorem fix_no {a : Addr} (hF : F a = none) (h : ¬ ∃ k, n ≤ k ∧ m[k]? = some a) : fixH F H m n a = none := by
  unfold fixH
  rw [hF]
  exact if_neg h
theorem fix_sub (S : Sto K F m st H) : ∀ a u, fixH F H m n a = some u → H a = some u := fun a u h => by
  unfold fixH at h
  split at h
  · rename_i v hv
    cases h
    exact S.sub _ _ hv
  · split at h
    · exact h
    · cases h
/-- the store is cut -/
theorem sto_cut (S : Sto K F m st H) (hb : ∀ k c, k < n → st[k]? = some c → ∀ ds, (c = .lst ds → belL n ds = true) ∧ ∀ kvs, c = .dic kvs → belL n (kvs.map (·.2)) = true) : Sto K (fixH F H m n) (m.take n) (st.take n) H := by
  refine ⟨fix_sub S, by rw [List.length_take, List.length_take, S.len], fun k c a hk ha => ?_, fun i j a hi hj => ?_⟩
  · have hkn : k < n := by
      have := (List.getElem?_eq_some_iff.mp hk).1
      rw [List.length_take] at this
      omega
    rw [List.getElem?_take_of_lt hkn] at hk ha
    have q := S.cell k c a hk ha
    have hno : ¬ ∃ j, n ≤ j ∧ m[j]? = some a := fun ⟨j, h1, h2⟩ => by
      have := S.inj _ _ _ ha h2
      omega
    cases c with
    | lst ds =>
      obtain ⟨h0, vs, h1, h2⟩ := q
      exact ⟨fix_no h0 hno, vs, h1, rps_cut (fix_f F H m n) ds vs ((hb k _ hkn hk ds).1 rfl) h2⟩
    | dic kvs =>
      obtain ⟨h0, ws, h1, h2, h3⟩ := q
      exact ⟨fix_no h0 hno, ws, h1, h2, rps_cut (fix_f F H m n) _ _ ((hb k _ hkn hk []).2 kvs rfl) h3⟩
  · have hin : i < n := by
      have := (List.getElem?_eq_some_iff.mp hi).1
      rw [List.length_take] at this
      omega
    have hjn : j < n := by
      have := (List.getElem?_eq_some_iff.mp hj).1
      rw [List.length_take] at this
      omega
    rw [List.getElem?_take_of_lt hin] at hi
    rw [List.getElem?_take_of_lt hjn] at hj
    exact S.inj i j a hi hj
theorem rp_frz (S : Sto K F m st H) : ∀ (f : Nat) (d d' : D) (v : V), frz n st f d = some d' → Rp K F m v d → Rp K (fixH F H m n) (m.take n) v d'
  | 0, _, _, _, h, _ => by cases h
  | f + 1, d, d', v, h, r => by
    have many : ∀ (ds es : List D) (vs : List V), mapO (frz n st f) ds = some es → Rps K F m vs ds → Rps K (fixH F H m n) (m.take n) vs es := by
      intro ds
      induction ds with
      | nil => intro es vs h r; cases h; cases r; exact .nil
      | cons d ds ih =>
        intro es vs h r
        cases r with
        | cons r1 r2 =>
          unfold mapO at h
          split at h
          · rename_i x xs h1 h2
            cases h
            exact .cons (rp_frz S f d x _ h1 r1) (ih xs _ h2 r2)
          · cases h
    unfold frz at h
    cases d with
    | tup ds =>
      dsimp only at h
      split at h
      · rename_i l hl
        cases h
        cases r with
        | tup h1 h2 => exact .tup (tupf_mono (fix_f F H m n) h1) (many ds l _ hl h2)
      · cases h
    | own k =>
      dsimp only at h
      cases r with
      | @own k a h1 =>
        split at h
        · rename_i hk
          cases h
          exact .own (by rw [List.getElem?_take_of_lt hk]; exact h1)
        · rename_i hk
          split at h
          · rename_i ds hds
            split at h
            · rename_i l hl
              cases h
              obtain ⟨h0, vs, h2, h3⟩ := S.cell k _ a hds h1
              exact .lst (by rw [fix_at h0 (by omega) h1]; exact h2) (many ds l vs hl h3)
            · cases h
          · cases h
    | lst ds =>
      dsimp only at h
      split at h
      · rename_i p
        cases h
        exact rp_pure (fix_f F H m n) _ _ (show pureD (.lst ds) = true from p) r
      · cases h
    | rol ds =>
      dsimp only at h
      split at h
      · rename_i p
        cases h
        exact rp_pure (fix_f F H m n) _ _ (show pureD (.rol ds) = true from p) r
      · cases h
    | non => cases h; exact rp_pure (fix_f F H m n) _ _ rfl r
    | bl _ => cases h; exact rp_pure (fix_f F H m n) _ _ rfl r
    | int _ => cases h; exact rp_pure (fix_f F H m n) _ _ rfl r
    | str _ => cases h; exact rp_pure (fix_f F H m n) _ _ rfl r
    | glo _ => cases h; exact rp_pure (fix_f F H m n) _ _ rfl r
mutual
theorem bel_pure : ∀ (d : D), pureD d = true → belowD n d = true
  | .non, _ => rfl
  | .bl b, _ => rfl
  | .int i, _ => rfl
  | .str x, _ => rfl
  | .tup ds, p => bel_purL ds p
  | .lst ds, p => bel_purL ds p
  | .rol ds, p => bel_purL ds p
  | .own k, p => by cases p
  | .glo a, _ => rfl
theorem bel_purL : ∀ (ds : List D), purL ds = true → belL n ds = true
  | [], _ => rfl
  | d :: ds, p => by
    have p' : (pureD d && purL ds) = true := p
    rw [Bool.and_eq_true] at p'
    show (belowD n d && belL n ds) = true
    rw [bel_pure d p'.1, bel_purL ds p'.2]
    rfl
end
/-- behind a def's body: what it is run from (F0, m0, st0), where it is now -/
theorem sto_back {F0 : Hp} {m0 : Am} {st0 : Store} {H0 : Hp} (S0 : Sto K F0 m0 st0 H0) (x : Ext F0 m0 F m) (S : Sto K F m st H) (k : keepsB st0.length st0 st) :
    Ext F0 m0 (fixH F H m st0.length) (m.take st0.length) ∧ Sto K (fixH F H m st0.length) (m.take st0.length) (st.take st0.length) H := by
  refine ⟨⟨fun a u h => fix_f F H m _ a u (x.f a u h), fun k a h => ?_⟩, sto_cut S fun k' c hk hc ds => ?_⟩
  · have : k < st0.length := by rw [← S0.len]; exact (List.getElem?_eq_some_iff.mp h).1
    rw [List.getElem?_take_of_lt this]
    exact x.m k a h
  · rcases k k' hk with e | ⟨c', hc', p⟩
    · rw [hc] at e
      obtain ⟨a, _, q⟩ := S0.addr e.symm
      constructor
      · rintro rfl
        obtain ⟨_, vs, _, r⟩ := q
        rw [← S0.len]
        exact rps_below ds vs r
      · rintro kvs rfl
        obtain ⟨_, ws, _, _, r⟩ := q
        rw [← S0.len]
        exact rps_below _ _ r
    · rw [hc] at hc'
      cases hc'
      constructor
      · rintro rfl
        exact bel_purL ds p
      · rintro kvs rfl
        exact bel_purL _ p
end

/-! ### the promise -/
def WF (E : XK) : WX := fun cls d _ H => E cls d H
def spF (K : PySem.W.Frag) (mg : Str → Option Value) (n : Nat) (f : Fn) : Sp := fun vs H Q E => vs.length = n ∧ ∃ F m st ds, Sto K F m st H ∧ Rps K F m vs ds ∧ Post K mg (WF E) [] (relE K) F m (f ds st) Q
theorem post_W {K : PySem.W.Frag} {mg : Str → Option Value} {W W' : WX} {sg sg' : Sl} {α β : Type} {rel : Hp → Am → β → α → Prop} {F : Hp} {m : Am} {r : R α} {Q : β → Hp → Prop} (P : Post K mg W sg rel F m r Q) (h : ∀ cls d H, W cls d sg H → W' cls d sg' H) : Post K mg W' sg' rel F m r Q := by
  cases r with
  | ok a st => exact P
  | exc n st => exact fun H' F' m' cls d x s e => h _ _ _ (P H' F' m' cls d x s e)
  | bad => exact P
section
variable {X : Cx} {W : WX} {e : Expr} {es : List Expr} {aa : EA} {f : Addr} {fd : FuncData} {ps : List Str} {k : Nat} {x : Str} {p pos : Pos} {fn : Fn} {n : Nat}
/-- a call of a def -/
@[simp] def eCallF (n : Nat) (f : Fn) (a : EA) : EE := fun σ st => (a σ st).bind fun ds st1 => if ds.length = n then f ds st1 else .bad
theorem fe_call (G : FnOk X.prog X.w X.K X.mg X.base (L2.CX X.prog X.w) k f fd ps (spF X.K X.mg n fn)) (hr : Room k X.A) (tk : Takes X W) (hm : X.mg x = some (.ref f)) (hk : PySem.W.keepIn X.K (.ref f) = true) (hb : Binds X.K fd ps []) (ha : FA X W (e :: es) aa) (hg : Gl X x := by rfl)
    (hdb : (x == ("__debug__" : Str)) = false := by decide) (he : starEach (e :: es) X.env = (false, eval e X.env) :: starEach es X.env := by rfl) (hpl : (backTo pos (starEach es X.env)).any (·.1) = false := by rfl) :
    FE X W (.Call (.Name x p) (e :: es) [] pos) (eCallF n fn aa) := by
  obtain ⟨t1, p1, s1⟩ := ha
  refine ⟨_, pe_callS G hr hg hm hk hb (fun sg => passAt tk sg) p1 hdb he hpl, fun sg H F m σ st Q S R P => s1 _ _ _ _ _ _ _ S R (P.bind.imp ?_)⟩
  rintro vs H1 ⟨ds, st1, F1, m1, x1, S1, r1, P1⟩
  obtain ⟨c, P1⟩ := post_ite P1
  exact ⟨by rw [r1.length]; exact c, F1, m1, st1, ds, S1, r1, post_W P1 fun _ _ _ h => h⟩
end
section
variable {P : Program} {w : World} {K : PySem.W.Frag} {mg : Str → Option Value} {base : Heap}
theorem start_rsl {F : Hp} {m : Am} {N : List Str} {vs : List V} {ds : List D} (r : Rps K F m vs ds) : Rsl K F m (L2.start N vs) (startD N.length ds) := by
  unfold L2.start startD
  refine ⟨by simp [r.length], fun i d h => ?_⟩
  by_cases hi : i < ds.length
  · rw [List.getElem?_append_left (by simpa using hi), List.getElem?_map] at h
    cases e : ds[i]? with
    | none => rw [e] at h; cases h
    | some d2 =>
      rw [e] at h
      cases h
      obtain ⟨v, hv, rv⟩ := r.get' e
      exact ⟨v, by rw [List.getElem?_append_left (by simpa [r.length] using hi), List.getElem?_map, hv]; rfl, rv⟩
  · rw [List.getElem?_append_right (by simp; omega), List.getElem?_replicate] at h
    split at h <;> cases h
theorem body_ok {scope : Scope} {k : Nat} {f : Addr} {fd : FuncData} {qual : Str} {params : Arguments} {body : List Stmt} {N ps : List Str} {fn : Fn} (D : FunD K qual qual params body scope [] [] f fd) (S : FnScope N ps scope) (sb : SE)
    (hb : ∀ (cdv : Value) (A : Around) (outer : List Env) (s : Shared) (H : Hp) (E : XK), Room k (A.deeper (envOfC qual scope s.heap.objs.size f cdv)) → FB (cxOf (L2.CX P w) P w K mg base N qual scope f cdv A outer s H E) (WF E) body sb)
    (hf : ∀ E F m st H vs ds Q, Sto K F m st H → Rps K F m vs ds → vs.length = ps.length → Post K mg (WF E) [] (relE K) F m (fn ds st) Q → PostS K mg (WF E) { nx := fun _ H' => Q .non H', rt := Q } F m (sb (startD N.length ds) st)) :
    FnOk P w K mg base (L2.CX P w) (k + 1) f fd ps (spF K mg ps.length fn) := by
  refine FunD.ok D S (fun vs H Q E h => h.1) fun cdv A outer s H vs Q E hr ⟨hl, F, m, st, ds, S1, r1, P1⟩ => ?_
  obtain ⟨t, p, sm⟩ := hb cdv A outer s H E hr
  exact ⟨t, p, sm _ _ _ _ _ _ _ S1 (start_rsl r1) (hf E F m st H vs ds Q S1 r1 hl P1)⟩
theorem fn_okF {scope : Scope} {k : Nat} {f : Addr} {fd : FuncData} {qual : Str} {params : Arguments} {body : List Stmt} {N ps : List Str} (D : FunD K qual qual params body scope [] [] f fd) (S : FnScope N ps scope) (sb : SE) (nl : Nat) (hnl : nl = N.length)
    (hb : ∀ (cdv : Value) (A : Around) (outer : List Env) (s : Shared) (H : Hp) (E : XK), Room k (A.deeper (envOfC qual scope s.heap.objs.size f cdv)) → FB (cxOf (L2.CX P w) P w K mg base N qual scope f cdv A outer s H E) (WF E) body sb) :
    FnOk P w K mg base (L2.CX P w) (k + 1) f fd ps (spF K mg ps.length (runF ps.length nl sb)) := by
  subst hnl
  refine body_ok D S sb hb fun E F m st H vs ds Q S1 r1 hl P1 => ?_
  unfold runF at P1
  obtain ⟨hc, P1⟩ := post_ite P1
  have fin : ∀ d st' v H' F' m', Post K mg (WF E) [] (relE K) F m (finD st d st') Q → Ext F m F' m' → Sto K F' m' st' H' → Rp K F' m' v d → Q v H' := fun d st' v H' F' m' P2 x S' r' => by
    unfold finD at P2
    obtain ⟨kb, P2⟩ := post_ite P2
    obtain ⟨x2, S2⟩ := sto_back S1 x S' kb
    split at P2
    · rename_i d' hd
      refine P2 v H' _ _ x2 S2 ?_
      unfold frzT at hd
      split at hd
      · rename_i pd
        cases hd
        exact rp_pure (fix_f _ _ _ _) _ _ pd r'
      · exact rp_frz S' _ _ _ _ hd r'
    · exact False.elim P2
  cases h : sb (startD N.length ds) st with
  | nx σ' st' => rw [h] at P1; exact fun sg H' F' m' x S' R' => fin _ _ _ _ _ _ P1 x S' .non
  | ret d st' => rw [h] at P1; exact fun v H' F' m' x S' r' => fin _ _ _ _ _ _ P1 x S' r'
  | exc n σ' st' =>
    rw [h] at P1
    intro sg H' F' m' cls d x S' R' ex
    unfold finX at P1
    obtain ⟨⟨kb, pr⟩, P1⟩ := post_ite P1
    obtain ⟨x2, S2⟩ := sto_back S1 x S' kb
    refine P1 H' _ _ cls d x2 S2 ?_
    obtain ⟨C, h1, h2, h3⟩ := ex
    refine ⟨C, h1, h2, ?_⟩
    obtain ⟨nm, op⟩ := n
    cases op with
    | none => exact h3
    | some y =>
      obtain ⟨dx, u, g1, g2, g3⟩ := h3
      exact ⟨dx, u, g1, g2, rp_pure (fix_f _ _ _ _) _ _ (pr y rfl) g3⟩
  | brk σ' st' => rw [h] at P1; exact False.elim P1
  | cnt σ' st' => rw [h] at P1; exact False.elim P1
  | bad => rw [h] at P1; exact False.elim P1
theorem fn_okR {scope : Scope} {k : Nat} {f : Addr} {fd : FuncData} {qual : Str} {params : Arguments} {body : List Stmt} {N ps : List Str} (D : FunD K qual qual params body scope [] [] f fd) (S : FnScope N ps scope) (sb : SE) (nl : Nat) (hnl : nl = N.length)
    (hb : ∀ (cdv : Value) (A : Around) (outer : List Env) (s : Shared) (H : Hp) (E : XK), Room k (A.deeper (envOfC qual scope s.heap.objs.size f cdv)) → FB (cxOf (L2.CX P w) P w K mg base N qual scope f cdv A outer s H E) (WF E) body sb) :
    FnOk P w K mg base (L2.CX P w) (k + 1) f fd ps (spF K mg ps.length (runR ps.length nl sb)) := by
  subst hnl
  refine body_ok D S sb hb fun E F m st H vs ds Q S1 r1 hl P1 => ?_
  unfold runR at P1
  obtain ⟨hc, P1⟩ := post_ite P1
  cases h : sb (startD N.length ds) st with
  | nx σ' st' => rw [h] at P1; exact fun sg H' F' m' x S' R' => P1 .non H' F' m' x S' .non
  | ret d st' => rw [h] at P1; exact fun v H' F' m' x S' r' => P1 v H' F' m' x S' r'
  | exc n σ' st' => rw [h] at P1; exact fun sg H' F' m' cls d x S' R' ex => P1 H' F' m' cls d x S' ex
  | brk σ' st' => rw [h] at P1; exact False.elim P1
  | cnt σ' st' => rw [h] at P1; exact False.elim P1
  | bad => rw [h] at P1; exact False.elim P1
end
end Fx

set_option Elab.async false
set_option linter.all false
set_option maxRecDepth 100000
set_option maxHeartbeats 4000000
/-! Fx: raise, try -/
namespace Fx
open PySem PySem.Spec PyProof.Rows L2
section
variable {X : Cx} {W : WX} {C : Addr} {x : Str} {p pos pos2 : Pos}
/-- the facts of an own exception class without own __init__ -/
structure ExF (K : PySem.W.Frag) (C : Addr) : Prop where
  ex : PySem.W.excIn K C He.veBase "ValueError.__new__" = true
  kp : PySem.W.keepIn K (.ref C) = true
  sb : PySem.W.subIn K (.ref C) (.type "BaseException") = some true
  ty : PySem.W.typeIn K (.ref C) = some (.type "type")
theorem pmk_own0 (q : ExF X.K C) (gC : X.mg x = some (.ref C)) (hg : Gl X x) (hdb : (x == ("__debug__" : Str)) = false := by decide) : PMk X (.Call (.Name x p) [] [] pos) (fun _ H Q => Q (.ref C) none H) := by
  intro pins s sg H Q I h
  refine wpAny_Call_Name_kw (ld_glob I hg gC ?_ hdb)
  refine PySem.W.callWith_K0 I.kIn q.kp ?_
  obtain ⟨bm, N, nm, qn, bs, hdct, sn, sub, ab, col, dd, k0, k1, k2, k3, k5, mN, hC, hN, hni, T⟩ := exc_obj I.kIn q.ex
  refine wpAny_call_exc_subT PySem.F.excBase_ValueError T hC hN hni (fun h' e hm => ?_) (Nat.zero_le _)
  exact mk_of I hm (raises_own q.sb q.ty) h (I.hok.gone hm.new)
@[simp] def sRaise (x : Str) : SE := fun σ st => .exc (x, none) σ st
theorem fs_raise0 (hc : X.calm = true) (tk : Takes X W) (q : ExF X.K C) (gC : X.mg x = some (.ref C)) (hg : Gl X x := by rfl) (hdb : (x == ("__debug__" : Str)) = false := by decide) : FS X W (.Raise (some (.Call (.Name x p) [] [] pos)) none pos2) (sRaise x) :=
  ⟨_, ps_raise hc tk (pmk_own0 q gC hg hdb), fun D sg H F m σ st S R P => P sg H F m _ none (Ext.refl F m) S R ⟨C, gC, rfl, rfl⟩⟩

/-! ### isinstance of a held exception -/
def eIsE (a : Addr) (b : Bool) (e : EE) : EE := fun σ st => (e σ st).bind fun d st1 => match d with
  | .glo a' => if a' = a then .ok (.bl b) st1 else .bad
  | _ => .bad
theorem call_isP {a Dc : Addr} {oe : Obj} (c : ExcC X.K Dc) (hp : (a, oe) ∈ X.pn) (hz : Zc (.ref Dc) none oe) (hf : ∃ vs, oe.data = .fields vs) : CallR X (.builtin "isinstance") (rIsE X.K Dc a) := by
  rintro pins s sg H xs us Q I r ⟨cc, cv, b, rfl, hcv, e, q⟩
  cases r with
  | cons rx rr =>
    cases rr with
    | cons rt rr =>
      cases rr
      cases rx
      cases hcv _ rt
      obtain ⟨hget, _⟩ := I.pin (a, oe) (List.mem_append_left _ hp)
      obtain ⟨vs, hv⟩ := hf
      have J : PySem.W.InstAt s.heap a oe Dc none := by
        obtain ⟨oc, od, oda, osl⟩ := oe
        obtain ⟨h1, h2⟩ := hz
        dsimp only at h1 h2 hv
        subst h1 h2 hv
        exact ⟨hget, rfl, rfl, trivial⟩
      exact PySem.W.kia_one (PySem.W.handS_kitx_exc c.hg c.hk c.hs c.hd c.ha c.hn c.ht c.hm) I.kIn J e (nomatch ·) fun tk => ⟨.bl b, H, I.kept (t' := tk) fun _ _ z => z, rfl, q⟩
theorem fe_isiE {e : Expr} {ee : EE} {a Dc : Addr} {oe : Obj} {b : Bool} {cv : Value} {v : V} {y : Str} {p2 : Pos} (hy : PE X (.Name y p2) (tC v)) (hcv : ∀ u, RelV v u → u = cv) (c : ExcC X.K Dc) (hp : (a, oe) ∈ X.pn) (hz : Zc (.ref Dc) none oe) (hf : ∃ vs, oe.data = .fields vs) (hk : PySem.W.kitOne X.K (.ref Dc) cv = some b)
    (hm : X.mg "isinstance" = none) (ha : FE X W e ee) (hg : Gl X "isinstance" := by rfl) (hs : starEach [e, .Name y p2] X.env = (false, eval e X.env) :: starEach [.Name y p2] X.env := by rfl) (hpl : (backTo pos (starEach [.Name y p2] X.env)).any (·.1) = false := by rfl) :
    FE X W (.Call (.Name "isinstance" p) [e, .Name y p2] [] pos) (eIsE a b ee) := by
  obtain ⟨t1, p1, s1⟩ := ha
  refine ⟨_, pe_callB (call_isP c hp hz hf) hg hm (by decide +kernel) (pa_cons p1 (pa_cons hy pa_nil) hs) (by decide) (by decide) hs hpl, fun sg H F m σ st Q S R P => s1 _ _ _ _ _ _ _ S R (P.bind.imp ?_)⟩
  rintro w H1 ⟨d, st1, F1, m1, x1, S1, r1, P1⟩
  cases r1 with
  | glo a' =>
    obtain ⟨e1, P2⟩ := post_ite P1
    subst e1
    exact ⟨v, cv, b, rfl, hcv, hk, P2.ok S1 (Rp.bl b)⟩
  | _ => exact False.elim P1
end

/-! ### a def that tells the kind of a held exception -/
/-- called upon the exception at p, of the class C (without a dict), it hands back the text z -/
def FnKind (P : Program) (w : World) (K : PySem.W.Frag) (mg : Str → Option Value) (base : Heap) (k : Nat) (f : Addr) (fd : FuncData) (x : Str) (C : Addr) (z : Str) : Prop :=
  ∀ (A : Around) (outer : List Env) (s : Shared) (H : Hp) (args : Args) (Q : VK) (E : XK) (p : Addr × Obj), L2H.RoomH k A → L2H.PinOk outer H s p → Env0 P w K mg base A outer s H → BindsTo s fd args [(x, .ref p.1)] → Zc (.ref C) none p.2 → (∃ vs, p.2.data = .fields vs) →
    (∀ H', (∀ a u, H a = some u → H' a = some u) → Q (.str z) H') → codeAny (model P w) A (.call (.ref f) args) (CR (L2.CX P w) outer P w H s Q E) s
section
variable {P : Program} {w : World} {K : PySem.W.Frag} {mg : Str → Option Value} {base : Heap}
theorem kind_ok {scope : Scope} {k : Nat} {f : Addr} {fd : FuncData} {qual x : Str} {params : Arguments} {body : List Stmt} {N : List Str} {C : Addr} {z : Str} (D : FunD K qual qual params body scope [] [] f fd) (S : FnScope N [x] scope) (sb : Addr → SE)
    (hb : ∀ (cdv : Value) (A : Around) (outer : List Env) (s : Shared) (H : Hp) (E : XK) (p : Addr × Obj), Zc (.ref C) none p.2 → (∃ vs, p.2.data = .fields vs) → L2H.RoomH k (A.deeper (envOfC qual scope s.heap.objs.size f cdv)) → FB (L2H.cxH (L2.CX P w) P w K mg base N qual scope f cdv A outer s H E p) W0 body (sb p.1))
    (hz : ∀ a, ∃ st, sb a (startD N.length [.glo a]) [] = .ret (.str z) st) : FnKind P w K mg base (k + 1) f fd x C z := by
  obtain ⟨oc, od, dV, kV, doc, pm, an, cdv, ct, osl, rfl, lk, hcd, _, _⟩ := D.ex
  intro A outer s H args Q E p hr hpin e0 hbd zc zf q
  have KX : K.In s.heap := e0.mod.kin.keeps fun b o e => (e0.bs b o e).1
  have lim : s.heap.NoLimit := e0.mod.nolimit.keeps fun b o e => (e0.bs b o e).1
  have hkind : ∀ y ∈ [x].zip [Value.ref p.1], scope.names.lookup y.1 = some .local ∨ (scope.names.lookup y.1 = some .cell ∧ ((cellsFrom (s.heap.objs.size + 1) scope.names []).lookup y.1).isSome = true) := fun ⟨n, v⟩ hy =>
    (S.par n (List.of_mem_zip hy).1).imp id fun c => ⟨c, PySem.W.cellsFrom_some _ _ _ (.inl c)⟩
  refine codeAny_call_function hr.depth (KX _ _ lk) rfl S.co S.gen rfl (PySem.W.codeRec_of KX hcd) (hbd _ _ _ _ ?_)
  refine wpAny_newFunctionEnv_cells S.kind hkind fun env he s1 x1 => ?_
  subst he
  refine ⟨lim.keeps x1.toInCall.keep, codeAny_func ?_⟩
  obtain ⟨t, ht, sm⟩ := hb cdv A outer s H E p zc zf (hr.deeper _)
  have r1 : Vals [V.ref p.1] [Value.ref p.1] := .cons rfl .nil
  have I := L2H.inv_startH (CX := L2.CX P w) (P := P) (w := w) (E := E) S hpin e0 (vs := [V.ref p.1]) rfl r1 x1
  have S0 : Sto K H [] [] H := ⟨fun _ _ h => h, rfl, fun k c a h => by simp at h, fun i j a h => by simp at h⟩
  have hq : t { nx := fun _ H' => Q .non H', rt := Q } (L2.start N [V.ref p.1]) H := by
    refine sm _ _ _ H [] (startD N.length [.glo p.1]) [] S0 (start_rsl (.cons (.glo _) .nil)) ?_
    obtain ⟨st, e⟩ := hz p.1
    rw [e]
    intro v H' F' m' x' S' r'
    cases r'
    exact q H' fun a u h => S'.sub _ _ (x'.f _ _ h)
  refine wpAny_mono (ht.run [] s1 (L2.start N [V.ref p.1]) H _ I hq) (fun fl s' hs => ?_) fun e s' hs => hs
  have fin : ∀ {sg' : Sl} {H' : Hp} {v : V} {u : Value}, Inv (L2H.cxH (L2.CX P w) P w K mg base N qual scope f cdv A outer s H E p) [] sg' H' s' → RelV v u → Q v H' → CE outer P w H s Q u s' :=
    fun {sg' H' v u} J rv g => ⟨v, H', J.os, J.bare, J.base, J.hok, rv, g⟩
  cases fl with
  | ret u => obtain ⟨v, sg', H', J, rv, g⟩ := hs; exact fin J rv g
  | next => obtain ⟨sg', H', J, g⟩ := hs; exact fin (v := V.non) (u := Value.none) J rfl g
  | brk => obtain ⟨_, _, _, g⟩ := hs; exact False.elim g
  | cont => obtain ⟨_, _, _, g⟩ := hs; exact False.elim g
end

/-! ### try: .. except C as n: return kind(n) -/
section
variable {X : Cx} {W : WX}
/-- one reading for all contexts of a try's body -/
theorem all_b {ι : Sort _} {Xs : ι → Cx} {K : PySem.W.Frag} {mg : Str → Option Value} {body : List Stmt} {eb : SE} (hK : ∀ i, (Xs i).K = K) (hM : ∀ i, (Xs i).mg = mg) (h : ∀ i, FB (Xs i) W body eb) : ∃ t, (∀ i, PSs (Xs i) body t) ∧ SmS K mg W t eb := by
  have h' : ∀ i, ∃ t, PSs (Xs i) body t ∧ SmS K mg W t eb := fun i => by
    have q := h i
    unfold FB at q
    rw [hK i, hM i] at q
    exact q
  exact ⟨fun D σ H => ∀ i, (h' i).choose D σ H, fun i => ⟨fun pins s σ H D I q => (h' i).choose_spec.1.run pins s σ H D I (q i)⟩, fun D sg H F m σ st S R P i => (h' i).choose_spec.2 _ _ _ _ _ _ _ S R P⟩
/-- kf: the text for an exception that is caught -/
def sTryK (kf : Exn → Option Str) (eb : SE) : SE := fun σ st => match eb σ st with
  | .exc e _ st1 => match kf e with
    | some z => .ret (.str z) st1
    | none => .bad
  | r => r
structure TryI (X : Cx) (W : WX) where
  pn : List (Addr × Obj)
  xe : Value → Shared → Prop
  tk : Takes (X.tr pn xe) W
  po : PassesOwn (model X.prog X.w) X.A X.env xe
theorem fs_tryK {kf : Exn → Option Str} {eb : SE} {body : List Stmt} {x n kn y : Str} {c : Value} {i k : Nat} {f : Addr} {fd : FuncData} {np p1 p2 p3 p4 pos pos' : Pos} (tk : Takes X W) (hs : X.stack = X.env :: X.outer) (hf : X.env.frame = some X.env.locals) (hN : X.N.Nodup) (hi : X.N[i]? = some n) (hln : X.env.kindOf n = some .local) (hvn : X.env.scope.names.lookup n = some .local) (hc : Names X x c) (hr : L2H.RoomH k X.A)
    (hm : X.mg kn = some (.ref f)) (hg : Gl X kn) (hkp : PySem.W.keepIn X.K (.ref f) = true) (hbd : ∀ (s : Shared) (u : Value), X.K.In s.heap → BindsTo s fd ⟨[u], []⟩ [(y, u)])
    (hk : ∀ e z, kf e = some z → e.2 = none ∧ ∀ C, X.mg e.1 = some (.ref C) → PySem.W.exmOne X.K (.ref C) c = some true ∧ FnKind X.prog X.w X.K X.mg X.base k f fd y C z)
    (hb : ∀ (W' : WX) (j : TryI X W'), FB (X.tr j.pn j.xe) W' body eb)
    (hd1 : (kn == ("__debug__" : Str)) = false := by decide) (hd2 : (n == ("__debug__" : Str)) = false := by decide) (hd3 : (n == ("__classdict__" : Str)) = false := by decide) :
    FS X W (.Try body [.ExceptHandler (some (.Name x np)) (some n) [.Return (some (.Call (.Name kn p1) [.Name n p2] [] p3)) p4] pos'] [] [] pos) (sTryK kf eb) := by
  have h' : ∀ W' : WX, ∃ t, (∀ j : TryI X W', PSs (X.tr j.pn j.xe) body t) ∧ SmS X.K X.mg W' t eb := fun W' => all_b (Xs := fun j : TryI X W' => X.tr j.pn j.xe) (fun _ => rfl) (fun _ => rfl) (hb W')
  -- what the suite asks
  have suite : ∀ (a : Addr) (oe : Obj) (cls : Value) (d : Option Addr) (pn : List (Addr × Obj)), Zc cls d oe → (∃ vs, oe.data = .fields vs) → PSs (X.suite a ((a, oe) :: pn)) [.Return (some (.Call (.Name kn p1) [.Name n p2] [] p3)) p4]
      (fun D sg H => (∃ sg0 : Sl, sg = sg0.set i (some (.ref a))) ∧ ∃ C z, cls = .ref C ∧ d = none ∧ FnKind X.prog X.w X.K X.mg X.base k f fd y C z ∧ ∀ H', (∀ a u, H a = some u → H' a = some u) → D.rt (.str z) H') := by
    intro a oe cls d pn zc zf
    have pe : PE (X.suite a ((a, oe) :: pn)) (.Call (.Name kn p1) [.Name n p2] [] p3) (fun sg H Q => (∃ sg0 : Sl, sg = sg0.set i (some (.ref a))) ∧ ∃ C z, cls = .ref C ∧ d = none ∧ FnKind X.prog X.w X.K X.mg X.base k f fd y C z ∧ ∀ H', (∀ a u, H a = some u → H' a = some u) → Q (.str z) H') := by
      refine ⟨fun pins s sg H Q I ⟨hsg, C, z, ec, ed, kd, q⟩ => ?_⟩
      have hsi : sg[i]? = some (some (.ref a)) := by
        obtain ⟨sg0, rfl⟩ := hsg
        have hl := I.len
        rw [List.length_set] at hl
        exact List.getElem?_set_self (by rw [hl]; exact (List.getElem?_eq_some_iff.mp hi).1)
      subst ec ed
      refine wpAny_Call_Name_kw (ld_glob I hg hm ?_ hd1)
      have va : PE (X.suite a ((a, oe) :: pn)) (.Name n p2) (tVar i) := pe_var hi (.inl hvn) hd2 hd3
      have pa : PA (X.suite a ((a, oe) :: pn)) [.Name n p2] (tCons (tVar i) tNil) := pa_cons va pa_nil
      refine PySem.W.callWith_K (h₀ := X.base) I.ok.mod.kin hkp (thn (pa.run p3 pins s sg H (fun vs H1 => vs = [.ref a] ∧ H1 = H) I ⟨_, hsi, rfl, rfl⟩) ?_) (by rfl) (by rfl)
      rintro us s1 ⟨vs, H1, I1, r1, rfl, rfl⟩
      refine ⟨I1.kIn, ?_⟩
      cases r1 with
      | cons ru rn =>
        cases rn
        cases ru
        have pin := I1.pin (a, oe) (List.mem_append_left _ List.mem_cons_self)
        have hp : L2H.PinOk X.stack H1 s1 (a, oe) := ⟨pin.1, pin.2.1, fun hm => (List.mem_cons.mp (I1.stkSub a hm)).elim pin.2.2.1 pin.2.2.2.1, pin.2.2.2.2⟩
        refine wpAny_call (codeAny_mono (kd (X.suite a ((a, oe) :: pn)).A X.stack s1 H1 ⟨[.ref a], []⟩ Q (fun _ _ _ => False) (a, oe) ⟨hr.dp, hr.un⟩ hp I1.env0 (hbd s1 _ I1.kIn) zc zf q) fun r s' hq => ?_)
        cases r with
        | error e =>
          obtain ⟨_, _, _, _, _, _, _, _, _, _, _, _, ff⟩ := hq
          exact False.elim ff
        | ok fl =>
          cases fl with
          | ret u => exact I1.after hq
          | next => exact False.elim hq
          | brk => exact False.elim hq
          | cont => exact False.elim hq
    refine ⟨fun pins s sg H D I h => (pss_one (ps_ret pe)).run pins s sg H D I ?_⟩
    exact h
  refine ⟨_, ps_try_as (tb := fun W' => (h' W').choose) hs hf hN hi hln hc tk (fun W' pn xe t1 po => (h' W').choose_spec.1 ⟨pn, xe, t1, po⟩) (fun a oe cls d pn zc zf => suite a oe cls d pn zc zf), fun D sg H F m σ st S R Po => ?_⟩
  refine (h' _).choose_spec.2 _ _ _ _ _ _ _ S R ?_
  unfold sTryK at Po
  cases he : eb σ st with
  | nx σ' st' => rw [he] at Po; exact Po
  | ret d st' => rw [he] at Po; exact Po
  | brk σ' st' => rw [he] at Po; exact Po
  | cnt σ' st' => rw [he] at Po; exact Po
  | bad => rw [he] at Po; exact Po
  | exc e σ' st' =>
    rw [he] at Po
    dsimp only at Po
    intro sg' H' F' m' cls d x' S' R' ex
    split at Po
    · rename_i z hz
      obtain ⟨e2, hC⟩ := hk e z hz
      obtain ⟨C, h1, rfl, h3⟩ := ex
      rw [e2] at h3
      dsimp only at h3
      subst h3
      obtain ⟨hx, kd⟩ := hC C h1
      refine ⟨true, hx, fun _ a ha => ⟨⟨sg', rfl⟩, C, z, rfl, rfl, kd, fun H2 g => Po _ _ F' m' x' (S'.grow g) (.str z)⟩, fun b => absurd b.symm Bool.false_ne_true⟩
    · exact False.elim Po
end
end Fx

set_option Elab.async false
set_option linter.all false
set_option maxRecDepth 100000
set_option maxHeartbeats 4000000
/-! Fx: dicts -/
namespace Fx
open PySem PySem.Spec PyProof.Rows L2
def keyOf : D → Option Key
  | .int i => some (.inl i)
  | .str x => some (.inr x)
  | _ => none
def valD (kvs : List (Key × D)) (k : Key) : Option D := (kvs.find? fun kv => decide (kv.1 = k)).map (·.2)
def putD (kvs : List (Key × D)) (k : Key) (v : D) : List (Key × D) := if (kvs.any fun kv => decide (kv.1 = k)) = true then kvs.map fun kv => if kv.1 = k then (kv.1, v) else kv else kvs ++ [(k, v)]
def mergeD (kvs more : List (Key × D)) : List (Key × D) := more.foldl (fun acc kv => putD acc kv.1 kv.2) kvs
def keysOf : List (D × D) → Option (List (Key × D))
  | [] => some []
  | (k, v) :: r => match keyOf k, keysOf r with
    | some x, some xs => some ((x, v) :: xs)
    | _, _ => none
section
variable {K : PySem.W.Frag} {F H : Hp} {m : Am} {st : Store}
inductive Rkv (K : PySem.W.Frag) (F : Hp) (m : Am) : List (Key × V) → List (Key × D) → Prop
  | nil : Rkv K F m [] []
  | cons {k : Key} {v : V} {d : D} {ws : List (Key × V)} {kvs : List (Key × D)} : Rp K F m v d → Rkv K F m ws kvs → Rkv K F m ((k, v) :: ws) ((k, d) :: kvs)
theorem rkv_of : ∀ {ws : List (Key × V)} {kvs : List (Key × D)}, ws.map (·.1) = kvs.map (·.1) → Rps K F m (ws.map (·.2)) (kvs.map (·.2)) → Rkv K F m ws kvs
  | [], [], _, _ => .nil
  | [], _ :: _, h, _ => by cases h
  | _ :: _, [], h, _ => by cases h
  | (k, v) :: ws, (j, d) :: kvs, h, r => by
    rw [List.map_cons, List.map_cons] at h r
    obtain ⟨h1, h2⟩ := List.cons.inj h
    cases h1
    cases r with
    | cons r1 r2 => exact .cons r1 (rkv_of h2 r2)
theorem Rkv.maps : ∀ {ws : List (Key × V)} {kvs : List (Key × D)}, Rkv K F m ws kvs → ws.map (·.1) = kvs.map (·.1) ∧ Rps K F m (ws.map (·.2)) (kvs.map (·.2))
  | _, _, .nil => ⟨rfl, .nil⟩
  | _, _, .cons r t => by
    obtain ⟨h1, h2⟩ := t.maps
    rw [List.map_cons, List.map_cons, List.map_cons, List.map_cons, h1]
    exact ⟨rfl, .cons r h2⟩
theorem Rkv.length {ws : List (Key × V)} {kvs : List (Key × D)} (r : Rkv K F m ws kvs) : ws.length = kvs.length := by
  have := congrArg List.length r.maps.1
  simpa using this
theorem Rkv.val {k : Key} : ∀ {ws : List (Key × V)} {kvs : List (Key × D)}, Rkv K F m ws kvs → (valV ws k = none ∧ valD kvs k = none) ∨ ∃ v d, valV ws k = some v ∧ valD kvs k = some d ∧ Rp K F m v d
  | _, _, .nil => .inl ⟨rfl, rfl⟩
  | _, _, .cons (k := j) r t => by
    by_cases e : j = k
    · refine .inr ⟨_, _, ?_, ?_, r⟩ <;> simp [valV, valD, List.find?_cons, e]
    · have := t.val (k := k)
      simp only [valV, valD, List.find?_cons, e, decide_false] at this ⊢
      exact this
theorem Rkv.any {k : Key} : ∀ {ws : List (Key × V)} {kvs : List (Key × D)}, Rkv K F m ws kvs → (ws.any fun kv => decide (kv.1 = k)) = kvs.any fun kv => decide (kv.1 = k)
  | _, _, .nil => rfl
  | _, _, .cons r t => by rw [List.any_cons, List.any_cons, t.any]
theorem Rkv.repl {k : Key} {v : V} {d : D} (q : Rp K F m v d) : ∀ {ws : List (Key × V)} {kvs : List (Key × D)}, Rkv K F m ws kvs → Rkv K F m (ws.map fun kv => if kv.1 = k then (kv.1, v) else kv) (kvs.map fun kv => if kv.1 = k then (kv.1, d) else kv)
  | _, _, .nil => .nil
  | _, _, .cons (k := j) r t => by
    rw [List.map_cons, List.map_cons]
    by_cases e : j = k
    · rw [if_pos e, if_pos e]; exact .cons q (t.repl q)
    · rw [if_neg e, if_neg e]; exact .cons r (t.repl q)
theorem Rkv.snoc {k : Key} {v : V} {d : D} (q : Rp K F m v d) : ∀ {ws : List (Key × V)} {kvs : List (Key × D)}, Rkv K F m ws kvs → Rkv K F m (ws ++ [(k, v)]) (kvs ++ [(k, d)])
  | _, _, .nil => .cons q .nil
  | _, _, .cons r t => .cons r (t.snoc q)
theorem Rkv.put {k : Key} {v : V} {d : D} (q : Rp K F m v d) {ws : List (Key × V)} {kvs : List (Key × D)} (r : Rkv K F m ws kvs) : Rkv K F m (putK ws k v) (putD kvs k d) := by
  unfold putK putD
  rw [r.any]
  split
  · exact r.repl q
  · exact r.snoc q
theorem Rkv.merge : ∀ {more : List (Key × V)} {mored : List (Key × D)} {ws : List (Key × V)} {kvs : List (Key × D)}, Rkv K F m more mored → Rkv K F m ws kvs → Rkv K F m (mergeK ws more) (mergeD kvs mored)
  | _, _, _, _, .nil, r => r
  | _, _, _, _, .cons q t, r => t.merge (r.put q)
theorem keyOf_v {v : V} {d : D} {k : Key} (r : Rp K F m v d) (h : keyOf d = some k) : v = kV k := by
  cases r <;> first | (cases h; rfl) | cases h
theorem own_dic {v : V} {k : Nat} {l : List (Key × D)} (S : Sto K F m st H) (r : Rp K F m v (.own k)) (h : st[k]? = some (.dic l)) : ∃ a ws, v = .ref a ∧ m[k]? = some a ∧ F a = none ∧ H a = some (.dK ws) ∧ Rkv K F m ws l := by
  cases r with
  | @own k a h1 =>
    obtain ⟨c, hc, q⟩ := S.cellAt h1
    rw [h] at hc
    cases hc
    obtain ⟨h2, ws, h3, h4, h5⟩ := q
    exact ⟨a, ws, rfl, h1, h2, h3, rkv_of h4 h5⟩
end
/-! ### displays -/
def ePairs : List (EE × EE) → Slots → Store → R (List (D × D))
  | [], _, st => .ok [] st
  | (k, v) :: r, σ, st => (k σ st).bind fun x st1 => (v σ st1).bind fun y st2 => (ePairs r σ st2).bind fun l st3 => .ok ((x, y) :: l) st3
def eDisp (ps : List (EE × EE)) : EE := fun σ st => (ePairs ps σ (st ++ [.dic []])).bind fun l st1 => match st1[st.length]?, keysOf l with
  | some (.dic []), some kvs => if kvs.length ≤ 15 then .ok (.own st.length) (st1.set st.length (.dic (mergeD [] kvs))) else .bad
  | _, _ => .bad
def eDict0 : EE := fun _ st => .ok (.own st.length) (st ++ [.dic []])
inductive Rpp (K : PySem.W.Frag) (F : Hp) (m : Am) : List (V × V) → List (D × D) → Prop
  | nil : Rpp K F m [] []
  | cons {v w : V} {d e : D} {ws : List (V × V)} {ds : List (D × D)} : Rp K F m v d → Rp K F m w e → Rpp K F m ws ds → Rpp K F m ((v, w) :: ws) ((d, e) :: ds)
section
variable {X : Cx} {W : WX} {e o : Expr} {pos p apos cpos : Pos} {ee eo : EE}
def SmPP (K : PySem.W.Frag) (mg : Str → Option Value) (W : WX) (trs : List (TE × TE)) (ev : List (EE × EE)) : Prop := ∀ sg H F m σ st Q, Sto K F m st H → Rsl K F m sg σ → Post K mg W sg (fun F m v d => Rpp K F m v d) F m (ePairs ev σ st) Q → tPairs trs sg H Q
def FPP (X : Cx) (W : WX) (pos : Pos) (ks : List (Option Expr)) (vs : List Expr) (ev : List (EE × EE)) : Prop := ∃ trs, PPs X pos ks vs trs ∧ SmPP X.K X.mg W trs ev
theorem fpp_nil : FPP X W pos [] [] [] := ⟨_, pps_nil, fun sg H F m σ st Q S R P => P.ok S .nil⟩
theorem fpp_cons {k v : Expr} {ks : List (Option Expr)} {vs : List Expr} {ek ev : EE} {r : List (EE × EE)} (hk : FE X W k ek) (hv : FE X W v ev) (hr : FPP X W pos ks vs r) : FPP X W pos (some k :: ks) (v :: vs) ((ek, ev) :: r) := by
  obtain ⟨t1, p1, s1⟩ := hk
  obtain ⟨t2, p2, s2⟩ := hv
  obtain ⟨t3, p3, s3⟩ := hr
  refine ⟨_, pps_cons p1 p2 p3, fun sg H F m σ st Q S R P => s1 _ _ _ _ _ _ _ S R (P.bind.imp ?_)⟩
  rintro x H1 ⟨d1, st1, F1, m1, x1, S1, r1, P1⟩
  refine s2 _ _ _ _ _ _ _ S1 (R.up x1) (P1.bind.imp ?_)
  rintro y H2 ⟨d2, st2, F2, m2, x2, S2, r2, P2⟩
  refine s3 _ _ _ _ _ _ _ S2 ((R.up x1).up x2) (P2.bind.imp ?_)
  rintro l H3 ⟨d3, st3, F3, m3, x3, S3, r3, P3⟩
  exact P3.ok S3 (.cons ((r1.up x2).up x3) (r2.up x3) r3)
theorem keysOf_rpp {K : PySem.W.Frag} {F : Hp} {m : Am} : ∀ {l : List (V × V)} {ds : List (D × D)} {kvs : List (Key × D)}, Rpp K F m l ds → keysOf ds = some kvs → ∃ ws : List (Key × V), l = ws.map (fun kv => (kV kv.1, kv.2)) ∧ Rkv K F m ws kvs
  | _, _, kvs, .nil, h => by cases h; exact ⟨[], rfl, .nil⟩
  | _, _, kvs, .cons r q t, h => by
    unfold keysOf at h
    split at h
    · rename_i x xs h1 h2
      cases h
      obtain ⟨ws, rfl, r2⟩ := keysOf_rpp t h2
      have e := keyOf_v r h1
      subst e
      exact ⟨(x, _) :: ws, rfl, .cons q r2⟩
    · cases h
theorem fe_disp {ks : List (Option Expr)} {vs : List Expr} {ev : List (EE × EE)} (h : FPP X W pos ks vs ev) (hall : ks.all (·.isSome) = true := by rfl) (hl : ks.length = vs.length := by rfl) (h0 : ks ≠ [] := by exact fun z => by cases z) (h15 : ks.length ≤ 15 := by decide) : FE X W (.Dict ks vs pos) (eDisp ev) := by
  obtain ⟨trs, p1, s1⟩ := h
  refine ⟨_, pe_disp p1 hall hl h0 h15, fun sg H F m σ st Q S R P => ?_⟩
  intro p hp
  have fF : F p = none := by
    cases h : F p with
    | none => rfl
    | some u => rw [S.sub _ _ h] at hp; cases hp
  have S1 : Sto X.K F (m ++ [p]) (st ++ [.dic []]) (upd H p (.dK [])) := S.newCell hp ⟨fF, [], upd_same, rfl, .nil⟩
  have hk : (m ++ [p])[st.length]? = some p := by rw [← S.len]; exact get_snoc _ _
  have P0 : Post X.K X.mg W sg (relE X.K) F (m ++ [p]) (eDisp ev σ st) Q := P.up ext_snoc
  unfold eDisp at P0
  refine s1 _ _ _ _ _ _ _ S1 (R.up ext_snoc) (P0.bind.imp ?_)
  rintro l H1 ⟨ds, st1, F1, m1, x1, S2, r1, P1⟩
  dsimp only at P1
  split at P1
  · rename_i kvs h1 h2
    obtain ⟨c, P2⟩ := post_ite P1
    have hk1 := x1.m _ _ hk
    obtain ⟨f1, ws0, g1, g2, g3⟩ := S2.cell _ _ p h1 hk1
    have e0 : ws0 = [] := by
      cases ws0 with
      | nil => rfl
      | cons _ _ => cases g2
    subst e0
    obtain ⟨ws, rfl, r2⟩ := keysOf_rpp r1 h2
    refine ⟨g1, ws, rfl, by rw [r2.length]; exact c, ?_⟩
    have r3 := r2.merge (ws := []) (kvs := []) .nil
    exact P2 _ _ F1 m1 (Ext.refl F1 m1) (S2.write (c := .dic (mergeD [] kvs)) hk1 ⟨f1, _, upd_same, r3.maps.1, r3.maps.2⟩) (.own hk1)
  · exact False.elim P1
theorem fe_dict0 : FE X W (.Dict [] [] pos) eDict0 := by
  refine ⟨_, pe_dnewK, fun sg H F m σ st Q S R P p hp => ?_⟩
  have fF : F p = none := by
    cases h : F p with
    | none => rfl
    | some u => rw [S.sub _ _ h] at hp; cases hp
  exact P _ _ F (m ++ [p]) ext_snoc (S.newCell hp (c := .dic []) ⟨fF, [], upd_same, rfl, .nil⟩) (.own (by rw [← S.len]; exact get_snoc _ _))

/-! ### d.get(k, x) -/
def isDic (d : D) (st : Store) : Bool := match d with
  | .own k => match st[k]? with
    | some (.dic _) => true
    | _ => false
  | _ => false
def dicOf (d : D) (st : Store) : Option (List (Key × D)) := match d with
  | .own k => match st[k]? with
    | some (.dic l) => some l
    | _ => none
  | _ => none
theorem dicOf_at {K : PySem.W.Frag} {F H : Hp} {m : Am} {st : Store} {v : V} {d : D} {l : List (Key × D)} (S : Sto K F m st H) (r : Rp K F m v d) (h : dicOf d st = some l) : ∃ a ws, v = .ref a ∧ H a = some (.dK ws) ∧ Rkv K F m ws l := by
  unfold dicOf at h
  split at h
  · split at h
    · rename_i k l' hl
      cases h
      obtain ⟨a, ws, e, _, _, h1, h2⟩ := own_dic S r hl
      exact ⟨a, ws, e, h1, h2⟩
    · cases h
  · cases h
def eGet2 (d k x : EE) : EE := fun σ st => (d σ st).bind fun o st1 => if (dicOf o st1).isSome = true then (k σ st1).bind fun y st2 => (x σ st2).bind fun z st3 => match dicOf o st3, keyOf y with
  | some l, some key => .ok ((valD l key).getD z) st3
  | _, _ => .bad else .bad
theorem fe_get2 {k x : Expr} {ek ex : EE} (hu : X.A.units + 1 < cLine) (ho : FE X W o eo) (hk : FE X W k ek) (hx : FE X W x ex) (mm : M2 X o "get" apos k x cpos) : FE X W (.Call (.Attribute o "get" apos) [k, x] [] cpos) (eGet2 eo ek ex) := by
  obtain ⟨t1, p1, s1⟩ := ho
  obtain ⟨t2, p2, s2⟩ := hk
  obtain ⟨t3, p3, s3⟩ := hx
  refine ⟨_, pe_dget2 hu p1 p2 p3 mm, fun sg H F m σ st Q S R P => s1 _ _ _ _ _ _ _ S R (P.bind.imp ?_)⟩
  rintro v H1 ⟨d, st1, F1, m1, x1, S1, r1, P1⟩
  obtain ⟨c, P2⟩ := post_ite P1
  obtain ⟨l, hl⟩ := Option.isSome_iff_exists.mp c
  obtain ⟨a, ws, rfl, h1, h2⟩ := dicOf_at S1 r1 hl
  refine ⟨a, rfl, .inl ⟨ws, .inl h1⟩, s2 _ _ _ _ _ _ _ S1 (R.up x1) (P2.bind.imp ?_)⟩
  rintro y H2 ⟨d2, st2, F2, m2, x2, S2, r2, P3⟩
  refine s3 _ _ _ _ _ _ _ S2 ((R.up x1).up x2) (P3.bind.imp ?_)
  rintro z H3 ⟨d3, st3, F3, m3, x3, S3, r3, P4⟩
  dsimp only at P4
  split at P4
  · rename_i l2 key g1 g2
    obtain ⟨a2, ws2, e2, h3, h4⟩ := dicOf_at S3 ((r1.up x2).up x3) g1
    cases e2
    have ek := keyOf_v (r2.up x3) g2
    subst ek
    refine ⟨_, DGet.k h3, ?_⟩
    rcases h4.val (k := key) with ⟨e1, e2⟩ | ⟨v, d, e1, e2, rv⟩
    · rw [e2] at P4
      rw [e1]
      exact P4.ok S3 r3
    · rw [e2] at P4
      rw [e1]
      exact P4.ok S3 rv
  · exact False.elim P4
end
end Fx

set_option Elab.async false
set_option linter.all false
set_option maxRecDepth 100000
set_option maxHeartbeats 4000000
/-! Fx: rules in short, for printed derivations -/
namespace Fx
open PySem PySem.Spec PyProof.Rows L2
section
variable {X : Cx} {W : WX} {e : Expr} {ee : EE} {pos : Pos}
theorem fv (i : Nat) {x : Str} (hN : X.N[i]? = some x := by rfl) (hv : Vis X.env.scope x := by first | exact Or.inl rfl | exact Or.inr (Or.inl rfl) | exact Or.inr (Or.inr rfl)) (hd : (x == ("__debug__" : Str)) = false := by decide) (hcd : (x == ("__classdict__" : Str)) = false := by decide) : FE X W (.Name x pos) (eVar i) := fe_var hN hv hd hcd
theorem fcI {x : Str} {i : Int} (h : ∃ t, X.mg x = some (.int i t)) (hg : Gl X x := by rfl) (hd : (x == ("__debug__" : Str)) = false := by decide) : FE X W (.Name x pos) (eC (.int i)) := let ⟨t, h⟩ := h; fe_of (v := .int i) (pe_glob hg h ⟨t, rfl⟩ hd) fun _ _ => .int i
theorem fsS (i : Nat) {x : Str} {p2 : Pos} (hN : X.N.Nodup) (he : FE X W e ee) (hi : X.N[i]? = some x := by rfl) (hx : Loc X.env.scope x := by first | exact Or.inl rfl | exact Or.inr rfl) (hs : swapsWith e (some (.Name x p2)) pos.line X.env = pure false := by rfl) (hf : X.fn x = true ∨ X.env.scope.names.lookup x = some .local := by first | exact .inl rfl | exact .inr rfl) : FS X W (.Assign [.Name x p2] e pos) (sAsg ee (gN i)) := fs_set hN hi hx he hs hf
theorem fsA (i : Nat) {x : Str} {op : Operator} {f : D → D → Store → R D} {p2 : Pos} (hN : X.N.Nodup) (ho : FOp X W (inplaceOp op) f) (he : FE X W e ee) (hi : X.N[i]? = some x := by rfl) (hx : Loc X.env.scope x := by first | exact Or.inl rfl | exact Or.inr rfl) (hf : X.fn x = true ∨ X.env.scope.names.lookup x = some .local := by first | exact .inl rfl | exact .inr rfl) : FS X W (.AugAssign (.Name x p2) op e pos) (sAug i f ee) := fs_aug hN hi hx he ho hf
theorem fgN (i : Nat) {x : Str} (hN : X.N.Nodup) (hi : X.N[i]? = some x := by rfl) (hx : Loc X.env.scope x := by first | exact Or.inl rfl | exact Or.inr rfl) (hf : X.fn x = true ∨ X.env.scope.names.lookup x = some .local := by first | exact .inl rfl | exact .inr rfl) : FG X (.Name x pos) (gN i) := fg_name hN hi hx hf
theorem fwN (i : Nat) {own : List Nat} {x : Str} (hN : X.N.Nodup) (ho : i ∈ own := by decide) (hi : X.N[i]? = some x := by rfl) (hx : Loc X.env.scope x := by first | exact Or.inl rfl | exact Or.inr rfl) (hf : X.fn x = true ∨ X.env.scope.names.lookup x = some .local := by first | exact .inl rfl | exact .inr rfl) : FGw X own (.Name x pos) (gN i) := fgw_name ho hN hi hx hf
theorem fcp {op : CmpOp} {a b : Expr} {ea eb : EE} {f : D → D → Store → R D} (h : FOp X W (compareOp op) f) (ha : FE X W a ea) (hb : FE X W b eb) (hm : behindInMarks op b = false := by first | exact nomark _ (by decide) (by decide) | rfl) : FE X W (.Compare a [op] [b] pos) (eBin f ea eb) := fe_cmp h ha hb hm
theorem ftc {op : CmpOp} {a b : Expr} {ea eb : EE} {f : D → D → Store → R D} (h : FOp X W (compareOp op) f) (ha : FE X W a ea) (hb : FE X W b eb) (hm : behindInMarks op b = false := by first | exact nomark _ (by decide) (by decide) | rfl) : FT X W (.Compare a [op] [b] pos) (tV (eBin f ea eb)) := ft_cmp h ha hb hm
theorem fsu {o i : Expr} {eo ei : EE} {p2 : Pos} (he : FE X W e ee) (ho : FE X W o eo) (hi : FE X W i ei) (hp : ∀ {to ti : TE}, PE X o to → PE X i ti → PG X (.Subscript o i p2) (gSub to ti rSetL) := by exact fun h1 h2 => pg_sub h1 h2 set_list) (hs : swapsWithSole [.Subscript o i p2] e pos.line X.env = pure false := by rfl) (hw : swappedStores [.Subscript o i p2] e X.env = pure none := by rfl) (h1 : (assignEach [.Subscript o i p2] X.env).map (·.2) = [assign (.Subscript o i p2) X.env] := by rfl) :
    FS X W (.Assign [.Subscript o i p2] e pos) (sSub ee eo ei dSet) := fs_sub he ho hi hp hs hw h1
/-- xs[::-1] -/
def eRev (e : EE) : EE := fun σ st => (e σ st).bind fun d st1 => match rolOf d st1 with
  | some l => .ok (.own st1.length) (st1 ++ [.lst l.reverse])
  | none => .bad
theorem fe_revL {k : Nat} {p1 p2 p3 : Pos} (he : FE X W e ee) : FE X W (.Subscript e (.Slice none none (some (.UnaryOp .USub (.Constant (.int 1) k p1) p2)) p3) pos) (eRev ee) := by
  obtain ⟨t1, p1, s1⟩ := he
  refine ⟨_, pe_revL p1, fun sg H F m σ st Q S R P => s1 _ _ _ _ _ _ _ S R (P.bind.imp ?_)⟩
  rintro v H1 ⟨d, st1, F1, m1, x1, S1, r1, P1⟩
  dsimp only at P1
  split at P1
  · rename_i l hl
    obtain ⟨a, vs, rfl, h1, r2⟩ := rolOf_at S1 r1 hl
    exact ⟨a, vs, rfl, h1, fun p hp => post_lst P1 S1 r2.reverse hp⟩
  · exact False.elim P1
/-- the call of {..}.get and the like: what is seen of the text -/
theorem m2 {o f : Expr} {m : Str} {apos cpos : Pos} (h1 : attributeBase o m X.env (eval o X.env) = eval o X.env := by rfl)
    (h2 : ((backTo cpos (starEach [e, f] X.env)).all (fun x => !x.1) && (backToKw cpos (keywordEach [] X.env)).all (fun x => x.1.isSome) && decide (([e, f] : List Expr).length + ([] : List Keyword).length + (if ([] : List Keyword).isEmpty then 0 else 1) < 30)) = true := by rfl)
    (h3 : (apos.endLine == cpos.line) = true := by rfl) (h4 : backTo cpos (starEach [e, f] X.env) = [(false, eval e X.env), (false, eval f X.env)] := by rfl) : M2 X o m apos e f cpos := ⟨h1, h2, h3, h4⟩
end
section
variable {P : Program} {w : World} {K : PySem.W.Frag} {mg : Str → Option Value} {base : Heap}
/-- a def of which nothing is known -/
theorem fn_bad {CX : CXT} {k n : Nat} {f : Addr} {fd : FuncData} {ps : List Str} (h : n = ps.length) : FnOk P w K mg base CX k f fd ps (spF K mg n fun _ _ => .bad) :=
  ⟨fun vs H Q E q => q.1.trans h, fun A outer s H args us vs Q E hr e0 hb r q => by
    obtain ⟨_, F, m, st, ds, _, _, P⟩ := q
    exact False.elim P⟩
def fdOf (K : PySem.W.Frag) (f : Addr) : FuncData := match K.lookup f with
  | some ⟨_, _, .func fd, _⟩ => fd
  | _ => default
theorem fd_of {x qual : Str} {params : Arguments} {body : List Stmt} {scope : Scope} {dvs : List V} {kws : List (Str × V)} {f : Addr} (h : ∃ fd, FunD K x qual params body scope dvs kws f fd) : FunD K x qual params body scope dvs kws f (fdOf K f) := by
  obtain ⟨fd, D⟩ := h
  obtain ⟨oc, od, dV, kV, doc, pm, an, cdv, ct, osl, _, lk, _⟩ := D.ex
  have e : fdOf K f = fd := by
    unfold fdOf
    rw [lk]
  rw [e]
  exact D
end
end Fx

set_option Elab.async false
set_option linter.all false
/-! Fx: the kind of a held exception, reckoned -/
namespace Fx
open PySem PySem.Spec PyProof.Rows L2
def retStr : RS → Option Str
  | .ret (.str z) _ => some z
  | _ => none
theorem retStr_ok {r : RS} {z : Str} (h : retStr r = some z) : ∃ st, r = .ret (.str z) st := by
  unfold retStr at h
  split at h
  · cases h; exact ⟨_, rfl⟩
  · cases h
theorem hrH {k : Nat} {A : Around} (r : L2H.RoomH k A) : A.units + 64 < cLine := by have := r.un; omega
def At0 (a : Addr) (σ : Slots) : Prop := σ[0]? = some (some (.glo a))
def QE (a : Addr) (e e' : EE) : Prop := ∀ σ st, At0 a σ → e σ st = e' σ st
def QA (a : Addr) (e e' : EA) : Prop := ∀ σ st, At0 a σ → e σ st = e' σ st
def QT (a : Addr) (e e' : ET) : Prop := ∀ σ st, At0 a σ → e σ st = e' σ st
def QS (a : Addr) (s s' : SE) : Prop := ∀ σ st, At0 a σ → s σ st = s' σ st ∧ ∀ σ' st', s σ st = .nx σ' st' → At0 a σ'
section
variable {a : Addr} {e e' d d' : EE} {x x' : EA} {t t' u u' : ET} {s s' r r' : SE}
theorem QE.is {b : Bool} : QE a (eIsE a b (eVar 0)) (eC (.bl b)) := fun σ st h => by
  unfold At0 at h
  simp [eIsE, eVar, eC, h, R.bind]
theorem QE.same : QE a e e := fun _ _ _ => rfl
theorem QA.nil : QA a aNil aNil := fun _ _ _ => rfl
theorem QA.cons (h : QE a e e') (k : QA a x x') : QA a (aCons e x) (aCons e' x') := fun σ st q => by
  unfold aCons
  rw [h σ st q]
  congr 1
  funext y st1
  rw [k σ st1 q]
theorem QE.lst (k : QA a x x') : QE a (eLst x) (eLst x') := fun σ st q => by
  unfold eLst
  rw [k σ st q]
theorem QE.bin {f : D → D → Store → R D} (h : QE a e e') (k : QE a d d') : QE a (eBin f e d) (eBin f e' d') := fun σ st q => by
  unfold eBin
  rw [h σ st q]
  congr 1
  funext y st1
  rw [k σ st1 q]
theorem QT.v (h : QE a e e') : QT a (tV e) (tV e') := fun σ st q => by
  unfold tV
  rw [h σ st q]
theorem QT.not (h : QT a t t') : QT a (tNot1 t) (tNot1 t') := fun σ st q => by
  unfold tNot1
  rw [h σ st q]
theorem QT.or (h : QT a t t') (k : QT a u u') : QT a (tOr2 t u) (tOr2 t' u') := fun σ st q => by
  unfold tOr2
  rw [h σ st q]
  congr 1
  funext y st1
  rw [k σ st1 q]
theorem QS.pass : QS a sPass sPass := fun σ st q => ⟨rfl, fun σ' st' h => by cases h; exact q⟩
theorem QS.ret (h : QE a e e') : QS a (sRet e) (sRet e') := fun σ st q => ⟨by unfold sRet; rw [h σ st q], fun σ' st' h => by
  unfold sRet lift at h
  split at h <;> cases h⟩
theorem QS.asg {i : Nat} (h : QE a e e') : QS a (sAsg e (gN (i + 1))) (sAsg e' (gN (i + 1))) := fun σ st q => ⟨by unfold sAsg; rw [h σ st q], fun σ' st' h => by
  unfold sAsg lift gN at h
  split at h
  · cases h
    unfold At0 at q ⊢
    rw [List.getElem?_set_ne (by omega)]
    exact q
  all_goals cases h⟩
theorem QS.seq (h : QS a s s') (k : QS a r r') : QS a (sSeq s r) (sSeq s' r') := fun σ st q => by
  obtain ⟨h1, h2⟩ := h σ st q
  unfold sSeq
  rw [← h1]
  cases g : s σ st with
  | nx σ1 st1 => exact k σ1 st1 (h2 _ _ g)
  | _ => exact ⟨rfl, fun _ _ h => by cases h⟩
theorem QS.iff (h : QT a t t') (k : QS a s s') (l : QS a r r') : QS a (sIf t s r) (sIf t' s' r') := fun σ st q => by
  unfold sIf
  rw [← h σ st q]
  cases g : t σ st with
  | ok b st1 =>
    cases b
    · exact l σ st1 q
    · exact k σ st1 q
  | _ => exact ⟨rfl, fun _ _ h => by cases h⟩
theorem QS.kind {z : Str} {n : Nat} (h : QS a s s') (k : retStr (s' (startD (n + 1) [.glo a]) []) = some z) : ∃ st, s (startD (n + 1) [.glo a]) [] = .ret (.str z) st := by
  rw [(h (startD (n + 1) [.glo a]) [] rfl).1]
  exact retStr_ok k
end
end Fx

set_option Elab.async false
set_option linter.all false
set_option maxRecDepth 100000
/-! Fx: the head with one more Bool; a law's end -/
namespace Fx
open PySem PySem.Spec PyProof.Rows L2
abbrev AlE : Type := He.AlD × Bool
def obE (fa : List He.Fa) (fn : List He.DefD) (ex : PySem.W.Frag → Bool) (K : PySem.W.Frag) : AlE := (He.obsD fa fn K, ex K)
def obsE (n : Nat) (fa : List He.Fa) (fn : List He.DefD) (ex : PySem.W.Frag → Bool) (g : Addr → Option Obj) : AlE := obE fa fn ex (He.frG g (He.asD g n))
def hookE (n : Nat) (fa : List He.Fa) (fn : List He.DefD) (ex : PySem.W.Frag → Bool) : PySem.W.Hook where
  α := AlE
  obs := fun s => obsE n fa fn ex s.heap.get?
  val := fun _ => (He.valD fn, true)
  says := fun _ h => ∃ K : PySem.W.Frag, K.In h ∧ He.SaysD fa fn K ∧ ex K = true
  of := fun _ _ e => ⟨_, He.frG_in, congrArg (fun z : AlE => z.1) e, congrArg (fun z : AlE => z.2) e⟩
  keeps := fun _ _ _ ⟨K, hK, c⟩ k => ⟨K, PySem.W.Frag.In.keeps hK k, c⟩
theorem obsE_eq {n : Nat} {fa : List He.Fa} {fn : List He.DefD} {ex : PySem.W.Frag → Bool} {g : Addr → Option Obj} {s : Shared} (h : ∀ a, g a = s.heap.get? a) : obsE n fa fn ex g = (hookE n fa fn ex).obs s := by
  have e : g = s.heap.get? := funext h
  rw [e] <;> rfl
theorem law_sp {K : PySem.W.Frag} {mg : Str → Option Value} {H : Hp} {a : Addr} {ns : List Int} {f : Fn} (hS : SqL K H a (ns.map V.int)) (h : ∃ st, f [.rol (ns.map .int)] [] = .ok (.bl true) st) : spF K mg 1 f [.ref a] H (fun v _ => v = .bl true) fun _ _ _ => False := by
  obtain ⟨st, h⟩ := h
  have r : ∀ l : List Int, Rps K H [] (l.map V.int) (l.map D.int) := fun l => by
    induction l with
    | nil => exact .nil
    | cons i l ih => exact .cons (.int i) ih
  refine ⟨rfl, H, [], [], [.rol (ns.map .int)], ⟨fun _ _ h => h, rfl, fun k c a h => by simp at h, fun i j a h => by simp at h⟩, .cons (.rol hS (r ns)) .nil, ?_⟩
  rw [h]
  intro v H' F' m' x S q
  cases q
  rfl
/-- a law's end, its exceptions' fate may name the world -/
theorem walk_ofW {l : PySem.W.OpenLaw} {n k : Nat} {q : Program} {loose : List Str} {XP : (Str → Option Value) → Heap → Prop} {YP : World → Heap → Prop} {d : DefRec} {x : Str}
    (hn : l.most = some n) (hn2 : n ≤ sizeLine) (hdf : d.params.defaults = []) (hr : Room k callerA)
    (F : ∀ (w : World) (mg : Str → Option Value) (fa : Addr) (h : Heap), YP w h → h.Ns mainGlobals mg → mg d.name = some (.ref fa) →
      ∃ (K : PySem.W.Frag) (fd : FuncData) (sp : Sp), K.In h ∧ (∀ (s : Shared) (u : Value), BindsTo s fd ⟨[u], []⟩ [(x, u)]) ∧
        (∀ (H : Hp) (a : Addr) (ns : List Int), ns.length ≤ n → Only H → SqL K H a (ns.map V.int) → sp [.ref a] H (fun v _ => v = .bl true) fun _ _ _ => False) ∧
        ∀ base : Heap, K.In base → base.Ns mainGlobals mg → FnOk l.prog w K mg base (L2.CX l.prog w) k fa fd [x] sp) :
    PySem.W.WalkO q loose XP YP l.row.toRowW d [] (fun f vs => PySem.call f vs) := by
  refine Att.attach_call hn hdf fun w s₀ s₁ mg mb fa o pm cd doc a vs ns G Y ho hd hcd hmg hobj hints hlen hg => ?_
  obtain ⟨K, fd, sp, KX, hb, hsp, hF⟩ := F w mg fa _ Y G.T.g hmg
  exact law_call KX G.T.g G.T.b G.T.builtins G.T.nolimit hg hobj hints (Nat.le_trans hlen hn2) hr hF hb (fun H hO hS => hsp H a ns hlen hO hS) fun H e s' hc => by
    obtain ⟨_, _, _, _, _, _, _, _, _, _, _, _, hf⟩ := hc
    exact hf
end Fx

set_option Elab.async false
set_option linter.all false
set_option maxRecDepth 100000
set_option maxHeartbeats 8000000
namespace K57
open PySem PySem.Spec PyProof.Rows L2 Fx
def top (i : Nat) : Stmt := PySem.Challenge.pw_rowapart_k57_surroundings.main.body.getD i (.Pass ⟨0, 0, 0, 0⟩)
abbrev st_is_whole : Stmt := top 24
def dd_is_whole : He.DefD := ⟨("is_whole", none), "is_whole", "is_whole", defArgs st_is_whole, defBody st_is_whole, defScope st_is_whole, [], []⟩
abbrev st_awaited_behind : Stmt := top 32
def dd_awaited_behind : He.DefD := ⟨("awaited_behind", none), "awaited_behind", "awaited_behind", defArgs st_awaited_behind, defBody st_awaited_behind, defScope st_awaited_behind, [], []⟩
abbrev st_is_surrounding : Stmt := top 33
def dd_is_surrounding : He.DefD := ⟨("is_surrounding", none), "is_surrounding", "is_surrounding", defArgs st_is_surrounding, defBody st_is_surrounding, defScope st_is_surrounding, [], []⟩
abbrev st_law_purse : Stmt := top 38
def dd_law_purse : He.DefD := ⟨("_law_purse", none), "_law_purse", "_law_purse", defArgs st_law_purse, defBody st_law_purse, defScope st_law_purse, [], []⟩
abbrev st_law_take : Stmt := top 39
def dd_law_take : He.DefD := ⟨("_law_take", none), "_law_take", "_law_take", defArgs st_law_take, defBody st_law_take, defScope st_law_take, [], []⟩
abbrev st_law_term : Stmt := top 43
def dd_law_term : He.DefD := ⟨("_law_term", none), "_law_term", "_law_term", defArgs st_law_term, defBody st_law_term, defScope st_law_term, [], []⟩
abbrev st_law_end : Stmt := top 41
def dd_law_end : He.DefD := ⟨("_law_end", none), "_law_end", "_law_end", defArgs st_law_end, defBody st_law_end, defScope st_law_end, [], []⟩
abbrev st_law_around : Stmt := top 44
def dd_law_around : He.DefD := ⟨("_law_around", none), "_law_around", "_law_around", defArgs st_law_around, defBody st_law_around, defScope st_law_around, [], []⟩
abbrev st_law_wholes : Stmt := top 40
def dd_law_wholes : He.DefD := ⟨("_law_wholes", none), "_law_wholes", "_law_wholes", defArgs st_law_wholes, defBody st_law_wholes, defScope st_law_wholes, [], []⟩
abbrev st_law_is_term : Stmt := top 42
def dd_law_is_term : He.DefD := ⟨("_law_is_term", none), "_law_is_term", "_law_is_term", defArgs st_law_is_term, defBody st_law_is_term, defScope st_law_is_term, [], []⟩
abbrev st_law_is_around : Stmt := top 45
def dd_law_is_around : He.DefD := ⟨("_law_is_around", none), "_law_is_around", "_law_is_around", defArgs st_law_is_around, defBody st_law_is_around, defScope st_law_is_around, [], []⟩
abbrev st_law_spoilt : Stmt := top 46
def dd_law_spoilt : He.DefD := ⟨("_law_spoilt", none), "_law_spoilt", "_law_spoilt", defArgs st_law_spoilt, defBody st_law_spoilt, defScope st_law_spoilt, [], []⟩
abbrev st_more_due : Stmt := top 25
def dd_more_due : He.DefD := ⟨("more_due", none), "more_due", "more_due", defArgs st_more_due, defBody st_more_due, defScope st_more_due, [], []⟩
abbrev st_is_read : Stmt := top 26
def dd_is_read : He.DefD := ⟨("is_read", none), "is_read", "is_read", defArgs st_is_read, defBody st_is_read, defScope st_is_read, [], []⟩
abbrev st_is_term : Stmt := top 27
def dd_is_term : He.DefD := ⟨("is_term", none), "is_term", "is_term", defArgs st_is_term, defBody st_is_term, defScope st_is_term, [], []⟩
abbrev st_look_term : Stmt := top 28
def dd_look_term : He.DefD := ⟨("look_term", none), "look_term", "look_term", defArgs st_look_term, defBody st_look_term, defScope st_look_term, [], []⟩
abbrev st_look_around : Stmt := top 34
def dd_look_around : He.DefD := ⟨("look_around", none), "look_around", "look_around", defArgs st_look_around, defBody st_look_around, defScope st_look_around, [], []⟩
abbrev st_put_in_hole : Stmt := top 35
def dd_put_in_hole : He.DefD := ⟨("put_in_hole", none), "put_in_hole", "put_in_hole", defArgs st_put_in_hole, defBody st_put_in_hole, defScope st_put_in_hole, [], []⟩
abbrev st_filled : Stmt := top 36
def dd_filled : He.DefD := ⟨("filled", none), "filled", "filled", defArgs st_filled, defBody st_filled, defScope st_filled, [], []⟩
abbrev st_law_kind : Stmt := top 47
def dd_law_kind : He.DefD := ⟨("_law_kind", none), "_law_kind", "_law_kind", defArgs st_law_kind, defBody st_law_kind, defScope st_law_kind, [], []⟩
abbrev st_law_say : Stmt := top 48
def dd_law_say : He.DefD := ⟨("_law_say", none), "_law_say", "_law_say", defArgs st_law_say, defBody st_law_say, defScope st_law_say, [], []⟩
abbrev st_law_due : Stmt := top 49
def dd_law_due : He.DefD := ⟨("_law_due", none), "_law_due", "_law_due", defArgs st_law_due, defBody st_law_due, defScope st_law_due, [], []⟩
abbrev st_law : Stmt := top 50
def dd_law : He.DefD := ⟨("law", none), "law", "law", defArgs st_law, defBody st_law, defScope st_law, [], []⟩
def fn : List He.DefD := [dd_is_whole, dd_awaited_behind, dd_is_surrounding, dd_law_purse, dd_law_take, dd_law_term, dd_law_end, dd_law_around, dd_law_wholes, dd_law_is_term, dd_law_is_around, dd_law_spoilt, dd_more_due, dd_is_read, dd_is_term, dd_look_term, dd_look_around, dd_put_in_hole, dd_filled, dd_law_kind, dd_law_say, dd_law_due, dd_law]
def fa : List He.Fa := [.glo "is_whole", .glo "awaited_behind", .glo "is_surrounding", .glo "_law_purse", .glo "_law_take", .glo "_law_term", .glo "_law_end", .glo "_law_around", .glo "_law_wholes", .glo "_law_is_term", .glo "_law_is_around", .glo "_law_spoilt", .glo "more_due", .glo "is_read", .glo "is_term", .glo "look_term", .glo "look_around", .glo "put_in_hole", .glo "filled", .glo "_law_kind", .glo "_law_say", .glo "_law_due", .glo "law", .glo "Wrong", .glo "NoTerm", .glo "NoPlace", .glo "NoStep", .glo "NoRow", .glo "InOrder", .glo "NoSize", .glo "TooMuch", .glo "NoOpening", .glo "NoTree", .glo "NoLast", .glo "Alike", .glo "NotAlike", .glo "NoHole", .glo "NoForms", .glo "NoLink", .glo "NoText", .glo "NoName", .exc "NoHole", .exc "NoTerm", .exc "TooMuch", .int "TURN" (-1), .int "GIFT" (-2), .int "MOST" (20000), .int "FAR" (9999), .int "HOLE" (-3), .int "MOST_AROUND" (200), .free "ValueError", .free "abs", .free "all", .free "bool", .free "int", .free "isinstance", .free "len", .free "list", .free "max", .free "min", .free "range", .free "str", .free "tuple"]
def raised : List Str := ["NoHole", "NoTerm", "TooMuch"]
def kinds : List Str := ["Wrong", "ValueError", "TooMuch", "NoTree", "NotAlike", "NoText", "NoTerm", "NoStep", "NoSize", "NoRow", "NoPlace", "NoOpening", "NoName", "NoLink", "NoLast", "NoHole", "NoForms", "InOrder", "Alike"]
def ownK : List Str := ["Wrong", "NoTerm", "NoPlace", "NoStep", "NoRow", "InOrder", "NoSize", "TooMuch", "NoOpening", "NoTree", "NoLast", "Alike", "NotAlike", "NoHole", "NoForms", "NoLink", "NoText", "NoName"]
/-- which classes an exception of the class C is of -/
def tabK (C y : Str) : Bool := decide (C = y) || decide (y = "Wrong") || decide (y = "ValueError")
/-- where a class that is asked for stands -/
def clsV (K : PySem.W.Frag) (y : Str) : Value := if y ∈ ownK then .ref (He.ga K y) else .type "ValueError"
/-- what the exceptions' classes must say -/
def exB (K : PySem.W.Frag) : Bool := raised.all fun C => (He.eqO (PySem.W.findIn K (.ref (He.ga K C)) "__getattribute__") (some (some (.builtin "BaseException.__getattribute__"))) && He.eqO (PySem.W.findIn K (.ref (He.ga K C)) "__getattr__") (some none) &&
  decide (PySem.W.subIn K (.ref (He.ga K C)) (.type "BaseException") = some true) && PySem.W.hasDictIn K (He.ga K C) && He.eqO (PySem.W.findIn K (.ref (He.ga K C)) "__class__") (some (some (.builtin "object.__class__"))) &&
  He.eqO (PySem.W.specialIn K (.builtin "object.__class__") "__get__") (some (some (.builtin "getset_descriptor.__get__"))) && decide (PySem.W.takesIn K (.builtin "object.__class__") = some true) && decide (PySem.W.mroIn K (He.ga K C) (.type "object") = some true)) &&
  (decide (PySem.W.exmOne K (.ref (He.ga K C)) (.ref (He.ga K "Wrong")) = some true)) && kinds.all fun y => decide (PySem.W.kitOne K (.ref (He.ga K C)) (clsV K y) = some (tabK C y))
structure Bd (P : Program) (w : World) (K : PySem.W.Frag) (mg : Str → Option Value) : Prop where
  c : He.SaysD fa fn K
  e : exB K = true
  ns : ∃ h : Heap, K.In h ∧ h.Ns mainGlobals mg
theorem exA {K : PySem.W.Frag} (h : exB K = true) {C : Str} (hC : C ∈ raised) : ExcC K (He.ga K C) ∧ PySem.W.exmOne K (.ref (He.ga K C)) (.ref (He.ga K "Wrong")) = some true ∧ ∀ y, y ∈ kinds → PySem.W.kitOne K (.ref (He.ga K C)) (clsV K y) = some (tabK C y) := by
  unfold exB at h
  have q := List.all_eq_true.mp h C hC
  simp only [Bool.and_eq_true, decide_eq_true_eq, List.all_eq_true] at q
  obtain ⟨⟨⟨⟨⟨⟨⟨⟨⟨h1, h2⟩, h3⟩, h4⟩, h5⟩, h6⟩, h7⟩, h8⟩, h9⟩, h10⟩ := q
  exact ⟨⟨He.eqO_ok h1, He.eqO_ok h2, h3, h4, He.eqO_ok h5, He.eqO_ok h6, h7, h8⟩, h9, h10⟩
section
variable {P : Program} {w : World} {K : PySem.W.Frag} {mg : Str → Option Value} {base : Heap}
theorem Bd.X (B : Bd P w K mg) : K.In B.ns.choose := B.ns.choose_spec.1
theorem Bd.G (B : Bd P w K mg) : B.ns.choose.Ns mainGlobals mg := B.ns.choose_spec.2
theorem m_is_whole (B : Bd P w K mg) : mg "is_whole" = some (.ref (He.ga K "is_whole")) := He.glo_ok B.X B.G (B.c.fact 0 (f := .glo "is_whole") rfl)
theorem m_awaited_behind (B : Bd P w K mg) : mg "awaited_behind" = some (.ref (He.ga K "awaited_behind")) := He.glo_ok B.X B.G (B.c.fact 1 (f := .glo "awaited_behind") rfl)
theorem m_is_surrounding (B : Bd P w K mg) : mg "is_surrounding" = some (.ref (He.ga K "is_surrounding")) := He.glo_ok B.X B.G (B.c.fact 2 (f := .glo "is_surrounding") rfl)
theorem m_law_purse (B : Bd P w K mg) : mg "_law_purse" = some (.ref (He.ga K "_law_purse")) := He.glo_ok B.X B.G (B.c.fact 3 (f := .glo "_law_purse") rfl)
theorem m_law_take (B : Bd P w K mg) : mg "_law_take" = some (.ref (He.ga K "_law_take")) := He.glo_ok B.X B.G (B.c.fact 4 (f := .glo "_law_take") rfl)
theorem m_law_term (B : Bd P w K mg) : mg "_law_term" = some (.ref (He.ga K "_law_term")) := He.glo_ok B.X B.G (B.c.fact 5 (f := .glo "_law_term") rfl)
theorem m_law_end (B : Bd P w K mg) : mg "_law_end" = some (.ref (He.ga K "_law_end")) := He.glo_ok B.X B.G (B.c.fact 6 (f := .glo "_law_end") rfl)
theorem m_law_around (B : Bd P w K mg) : mg "_law_around" = some (.ref (He.ga K "_law_around")) := He.glo_ok B.X B.G (B.c.fact 7 (f := .glo "_law_around") rfl)
theorem m_law_wholes (B : Bd P w K mg) : mg "_law_wholes" = some (.ref (He.ga K "_law_wholes")) := He.glo_ok B.X B.G (B.c.fact 8 (f := .glo "_law_wholes") rfl)
theorem m_law_is_term (B : Bd P w K mg) : mg "_law_is_term" = some (.ref (He.ga K "_law_is_term")) := He.glo_ok B.X B.G (B.c.fact 9 (f := .glo "_law_is_term") rfl)
theorem m_law_is_around (B : Bd P w K mg) : mg "_law_is_around" = some (.ref (He.ga K "_law_is_around")) := He.glo_ok B.X B.G (B.c.fact 10 (f := .glo "_law_is_around") rfl)
theorem m_law_spoilt (B : Bd P w K mg) : mg "_law_spoilt" = some (.ref (He.ga K "_law_spoilt")) := He.glo_ok B.X B.G (B.c.fact 11 (f := .glo "_law_spoilt") rfl)
theorem m_more_due (B : Bd P w K mg) : mg "more_due" = some (.ref (He.ga K "more_due")) := He.glo_ok B.X B.G (B.c.fact 12 (f := .glo "more_due") rfl)
theorem m_is_read (B : Bd P w K mg) : mg "is_read" = some (.ref (He.ga K "is_read")) := He.glo_ok B.X B.G (B.c.fact 13 (f := .glo "is_read") rfl)
theorem m_is_term (B : Bd P w K mg) : mg "is_term" = some (.ref (He.ga K "is_term")) := He.glo_ok B.X B.G (B.c.fact 14 (f := .glo "is_term") rfl)
theorem m_look_term (B : Bd P w K mg) : mg "look_term" = some (.ref (He.ga K "look_term")) := He.glo_ok B.X B.G (B.c.fact 15 (f := .glo "look_term") rfl)
theorem m_look_around (B : Bd P w K mg) : mg "look_around" = some (.ref (He.ga K "look_around")) := He.glo_ok B.X B.G (B.c.fact 16 (f := .glo "look_around") rfl)
theorem m_put_in_hole (B : Bd P w K mg) : mg "put_in_hole" = some (.ref (He.ga K "put_in_hole")) := He.glo_ok B.X B.G (B.c.fact 17 (f := .glo "put_in_hole") rfl)
theorem m_filled (B : Bd P w K mg) : mg "filled" = some (.ref (He.ga K "filled")) := He.glo_ok B.X B.G (B.c.fact 18 (f := .glo "filled") rfl)
theorem m_law_kind (B : Bd P w K mg) : mg "_law_kind" = some (.ref (He.ga K "_law_kind")) := He.glo_ok B.X B.G (B.c.fact 19 (f := .glo "_law_kind") rfl)
theorem m_law_say (B : Bd P w K mg) : mg "_law_say" = some (.ref (He.ga K "_law_say")) := He.glo_ok B.X B.G (B.c.fact 20 (f := .glo "_law_say") rfl)
theorem m_law_due (B : Bd P w K mg) : mg "_law_due" = some (.ref (He.ga K "_law_due")) := He.glo_ok B.X B.G (B.c.fact 21 (f := .glo "_law_due") rfl)
theorem m_law (B : Bd P w K mg) : mg "law" = some (.ref (He.ga K "law")) := He.glo_ok B.X B.G (B.c.fact 22 (f := .glo "law") rfl)
theorem m_Wrong (B : Bd P w K mg) : mg "Wrong" = some (.ref (He.ga K "Wrong")) := He.glo_ok B.X B.G (B.c.fact 23 (f := .glo "Wrong") rfl)
theorem m_NoTerm (B : Bd P w K mg) : mg "NoTerm" = some (.ref (He.ga K "NoTerm")) := He.glo_ok B.X B.G (B.c.fact 24 (f := .glo "NoTerm") rfl)
theorem m_NoPlace (B : Bd P w K mg) : mg "NoPlace" = some (.ref (He.ga K "NoPlace")) := He.glo_ok B.X B.G (B.c.fact 25 (f := .glo "NoPlace") rfl)
theorem m_NoStep (B : Bd P w K mg) : mg "NoStep" = some (.ref (He.ga K "NoStep")) := He.glo_ok B.X B.G (B.c.fact 26 (f := .glo "NoStep") rfl)
theorem m_NoRow (B : Bd P w K mg) : mg "NoRow" = some (.ref (He.ga K "NoRow")) := He.glo_ok B.X B.G (B.c.fact 27 (f := .glo "NoRow") rfl)
theorem m_InOrder (B : Bd P w K mg) : mg "InOrder" = some (.ref (He.ga K "InOrder")) := He.glo_ok B.X B.G (B.c.fact 28 (f := .glo "InOrder") rfl)
theorem m_NoSize (B : Bd P w K mg) : mg "NoSize" = some (.ref (He.ga K "NoSize")) := He.glo_ok B.X B.G (B.c.fact 29 (f := .glo "NoSize") rfl)
theorem m_TooMuch (B : Bd P w K mg) : mg "TooMuch" = some (.ref (He.ga K "TooMuch")) := He.glo_ok B.X B.G (B.c.fact 30 (f := .glo "TooMuch") rfl)
theorem m_NoOpening (B : Bd P w K mg) : mg "NoOpening" = some (.ref (He.ga K "NoOpening")) := He.glo_ok B.X B.G (B.c.fact 31 (f := .glo "NoOpening") rfl)
theorem m_NoTree (B : Bd P w K mg) : mg "NoTree" = some (.ref (He.ga K "NoTree")) := He.glo_ok B.X B.G (B.c.fact 32 (f := .glo "NoTree") rfl)
theorem m_NoLast (B : Bd P w K mg) : mg "NoLast" = some (.ref (He.ga K "NoLast")) := He.glo_ok B.X B.G (B.c.fact 33 (f := .glo "NoLast") rfl)
theorem m_Alike (B : Bd P w K mg) : mg "Alike" = some (.ref (He.ga K "Alike")) := He.glo_ok B.X B.G (B.c.fact 34 (f := .glo "Alike") rfl)
theorem m_NotAlike (B : Bd P w K mg) : mg "NotAlike" = some (.ref (He.ga K "NotAlike")) := He.glo_ok B.X B.G (B.c.fact 35 (f := .glo "NotAlike") rfl)
theorem m_NoHole (B : Bd P w K mg) : mg "NoHole" = some (.ref (He.ga K "NoHole")) := He.glo_ok B.X B.G (B.c.fact 36 (f := .glo "NoHole") rfl)
theorem m_NoForms (B : Bd P w K mg) : mg "NoForms" = some (.ref (He.ga K "NoForms")) := He.glo_ok B.X B.G (B.c.fact 37 (f := .glo "NoForms") rfl)
theorem m_NoLink (B : Bd P w K mg) : mg "NoLink" = some (.ref (He.ga K "NoLink")) := He.glo_ok B.X B.G (B.c.fact 38 (f := .glo "NoLink") rfl)
theorem m_NoText (B : Bd P w K mg) : mg "NoText" = some (.ref (He.ga K "NoText")) := He.glo_ok B.X B.G (B.c.fact 39 (f := .glo "NoText") rfl)
theorem m_NoName (B : Bd P w K mg) : mg "NoName" = some (.ref (He.ga K "NoName")) := He.glo_ok B.X B.G (B.c.fact 40 (f := .glo "NoName") rfl)
theorem x_NoHole (B : Bd P w K mg) : ExF K (He.ga K "NoHole") := by
  obtain ⟨h1, h2, h3, h4⟩ := He.exc_ok (B.c.fact 41 (f := .exc "NoHole") rfl)
  exact ⟨h1, h2, h3, h4⟩
theorem x_NoTerm (B : Bd P w K mg) : ExF K (He.ga K "NoTerm") := by
  obtain ⟨h1, h2, h3, h4⟩ := He.exc_ok (B.c.fact 42 (f := .exc "NoTerm") rfl)
  exact ⟨h1, h2, h3, h4⟩
theorem x_TooMuch (B : Bd P w K mg) : ExF K (He.ga K "TooMuch") := by
  obtain ⟨h1, h2, h3, h4⟩ := He.exc_ok (B.c.fact 43 (f := .exc "TooMuch") rfl)
  exact ⟨h1, h2, h3, h4⟩
theorem m_TURN (B : Bd P w K mg) : ∃ t, mg "TURN" = some (.int (-1) t) := He.int_ok B.X B.G (B.c.fact 44 (f := .int "TURN" (-1)) rfl)
theorem m_GIFT (B : Bd P w K mg) : ∃ t, mg "GIFT" = some (.int (-2) t) := He.int_ok B.X B.G (B.c.fact 45 (f := .int "GIFT" (-2)) rfl)
theorem m_MOST (B : Bd P w K mg) : ∃ t, mg "MOST" = some (.int (20000) t) := He.int_ok B.X B.G (B.c.fact 46 (f := .int "MOST" (20000)) rfl)
theorem m_FAR (B : Bd P w K mg) : ∃ t, mg "FAR" = some (.int (9999) t) := He.int_ok B.X B.G (B.c.fact 47 (f := .int "FAR" (9999)) rfl)
theorem m_HOLE (B : Bd P w K mg) : ∃ t, mg "HOLE" = some (.int (-3) t) := He.int_ok B.X B.G (B.c.fact 48 (f := .int "HOLE" (-3)) rfl)
theorem m_MOST_AROUND (B : Bd P w K mg) : ∃ t, mg "MOST_AROUND" = some (.int (200) t) := He.int_ok B.X B.G (B.c.fact 49 (f := .int "MOST_AROUND" (200)) rfl)
theorem z_ValueError (B : Bd P w K mg) : mg "ValueError" = none := He.free_ok B.X B.G (B.c.fact 50 (f := .free "ValueError") rfl)
theorem z_abs (B : Bd P w K mg) : mg "abs" = none := He.free_ok B.X B.G (B.c.fact 51 (f := .free "abs") rfl)
theorem z_all (B : Bd P w K mg) : mg "all" = none := He.free_ok B.X B.G (B.c.fact 52 (f := .free "all") rfl)
theorem z_bool (B : Bd P w K mg) : mg "bool" = none := He.free_ok B.X B.G (B.c.fact 53 (f := .free "bool") rfl)
theorem z_int (B : Bd P w K mg) : mg "int" = none := He.free_ok B.X B.G (B.c.fact 54 (f := .free "int") rfl)
theorem z_isinstance (B : Bd P w K mg) : mg "isinstance" = none := He.free_ok B.X B.G (B.c.fact 55 (f := .free "isinstance") rfl)
theorem z_len (B : Bd P w K mg) : mg "len" = none := He.free_ok B.X B.G (B.c.fact 56 (f := .free "len") rfl)
theorem z_list (B : Bd P w K mg) : mg "list" = none := He.free_ok B.X B.G (B.c.fact 57 (f := .free "list") rfl)
theorem z_max (B : Bd P w K mg) : mg "max" = none := He.free_ok B.X B.G (B.c.fact 58 (f := .free "max") rfl)
theorem z_min (B : Bd P w K mg) : mg "min" = none := He.free_ok B.X B.G (B.c.fact 59 (f := .free "min") rfl)
theorem z_range (B : Bd P w K mg) : mg "range" = none := He.free_ok B.X B.G (B.c.fact 60 (f := .free "range") rfl)
theorem z_str (B : Bd P w K mg) : mg "str" = none := He.free_ok B.X B.G (B.c.fact 61 (f := .free "str") rfl)
theorem z_tuple (B : Bd P w K mg) : mg "tuple" = none := He.free_ok B.X B.G (B.c.fact 62 (f := .free "tuple") rfl)
theorem ex_law_kind (B : Bd P w K mg) {C : Str} (hC : C ∈ raised) : ExcC K (He.ga K C) := (exA B.e hC).1
theorem exm_w (B : Bd P w K mg) {C : Str} (hC : C ∈ raised) : PySem.W.exmOne K (.ref (He.ga K C)) (.ref (He.ga K "Wrong")) = some true := (exA B.e hC).2.1
theorem kit_law_kind (B : Bd P w K mg) {C : Str} (hC : C ∈ raised) (y : Str) (hy : y ∈ kinds) : PySem.W.kitOne K (.ref (He.ga K C)) (clsV K y) = some (tabK C y) := (exA B.e hC).2.2 y hy
theorem d_is_whole (B : Bd P w K mg) : FunD K "is_whole" "is_whole" (defArgs st_is_whole) (defBody st_is_whole) (defScope st_is_whole) [] [] (He.ga K "is_whole") (fdOf K (He.ga K "is_whole")) := fd_of (B.c.def_ 0 (d := dd_is_whole) rfl)
theorem bd_is_whole (B : Bd P w K mg) : Binds K (fdOf K (He.ga K "is_whole")) ["thing"] [] := (d_is_whole B).bindsN fun _ _ _ _ _ _ us hl => match us, hl with | [_], _ => rfl
theorem d_awaited_behind (B : Bd P w K mg) : FunD K "awaited_behind" "awaited_behind" (defArgs st_awaited_behind) (defBody st_awaited_behind) (defScope st_awaited_behind) [] [] (He.ga K "awaited_behind") (fdOf K (He.ga K "awaited_behind")) := fd_of (B.c.def_ 1 (d := dd_awaited_behind) rfl)
theorem bd_awaited_behind (B : Bd P w K mg) : Binds K (fdOf K (He.ga K "awaited_behind")) ["number"] [] := (d_awaited_behind B).bindsN fun _ _ _ _ _ _ us hl => match us, hl with | [_], _ => rfl
theorem d_is_surrounding (B : Bd P w K mg) : FunD K "is_surrounding" "is_surrounding" (defArgs st_is_surrounding) (defBody st_is_surrounding) (defScope st_is_surrounding) [] [] (He.ga K "is_surrounding") (fdOf K (He.ga K "is_surrounding")) := fd_of (B.c.def_ 2 (d := dd_is_surrounding) rfl)
theorem bd_is_surrounding (B : Bd P w K mg) : Binds K (fdOf K (He.ga K "is_surrounding")) ["thing"] [] := (d_is_surrounding B).bindsN fun _ _ _ _ _ _ us hl => match us, hl with | [_], _ => rfl
theorem d_law_purse (B : Bd P w K mg) : FunD K "_law_purse" "_law_purse" (defArgs st_law_purse) (defBody st_law_purse) (defScope st_law_purse) [] [] (He.ga K "_law_purse") (fdOf K (He.ga K "_law_purse")) := fd_of (B.c.def_ 3 (d := dd_law_purse) rfl)
theorem bd_law_purse (B : Bd P w K mg) : Binds K (fdOf K (He.ga K "_law_purse")) ["_law_script", "_law_at"] [] := (d_law_purse B).bindsN fun _ _ _ _ _ _ us hl => match us, hl with | [_, _], _ => rfl
theorem d_law_take (B : Bd P w K mg) : FunD K "_law_take" "_law_take" (defArgs st_law_take) (defBody st_law_take) (defScope st_law_take) [] [] (He.ga K "_law_take") (fdOf K (He.ga K "_law_take")) := fd_of (B.c.def_ 4 (d := dd_law_take) rfl)
theorem bd_law_take (B : Bd P w K mg) : Binds K (fdOf K (He.ga K "_law_take")) ["_law_purse_here", "_law_many"] [] := (d_law_take B).bindsN fun _ _ _ _ _ _ us hl => match us, hl with | [_, _], _ => rfl
theorem d_law_term (B : Bd P w K mg) : FunD K "_law_term" "_law_term" (defArgs st_law_term) (defBody st_law_term) (defScope st_law_term) [] [] (He.ga K "_law_term") (fdOf K (He.ga K "_law_term")) := fd_of (B.c.def_ 5 (d := dd_law_term) rfl)
theorem bd_law_term (B : Bd P w K mg) : Binds K (fdOf K (He.ga K "_law_term")) ["_law_purse_here", "_law_most", "_law_spots"] [] := (d_law_term B).bindsN fun _ _ _ _ _ _ us hl => match us, hl with | [_, _, _], _ => rfl
theorem d_law_end (B : Bd P w K mg) : FunD K "_law_end" "_law_end" (defArgs st_law_end) (defBody st_law_end) (defScope st_law_end) [] [] (He.ga K "_law_end") (fdOf K (He.ga K "_law_end")) := fd_of (B.c.def_ 6 (d := dd_law_end) rfl)
theorem bd_law_end (B : Bd P w K mg) : Binds K (fdOf K (He.ga K "_law_end")) ["_law_term_here", "_law_place"] [] := (d_law_end B).bindsN fun _ _ _ _ _ _ us hl => match us, hl with | [_, _], _ => rfl
theorem d_law_around (B : Bd P w K mg) : FunD K "_law_around" "_law_around" (defArgs st_law_around) (defBody st_law_around) (defScope st_law_around) [] [] (He.ga K "_law_around") (fdOf K (He.ga K "_law_around")) := fd_of (B.c.def_ 7 (d := dd_law_around) rfl)
theorem bd_law_around (B : Bd P w K mg) : Binds K (fdOf K (He.ga K "_law_around")) ["_law_purse_here", "_law_most"] [] := (d_law_around B).bindsN fun _ _ _ _ _ _ us hl => match us, hl with | [_, _], _ => rfl
theorem d_law_wholes (B : Bd P w K mg) : FunD K "_law_wholes" "_law_wholes" (defArgs st_law_wholes) (defBody st_law_wholes) (defScope st_law_wholes) [] [] (He.ga K "_law_wholes") (fdOf K (He.ga K "_law_wholes")) := fd_of (B.c.def_ 8 (d := dd_law_wholes) rfl)
theorem bd_law_wholes (B : Bd P w K mg) : Binds K (fdOf K (He.ga K "_law_wholes")) ["_law_thing"] [] := (d_law_wholes B).bindsN fun _ _ _ _ _ _ us hl => match us, hl with | [_], _ => rfl
theorem d_law_is_term (B : Bd P w K mg) : FunD K "_law_is_term" "_law_is_term" (defArgs st_law_is_term) (defBody st_law_is_term) (defScope st_law_is_term) [] [] (He.ga K "_law_is_term") (fdOf K (He.ga K "_law_is_term")) := fd_of (B.c.def_ 9 (d := dd_law_is_term) rfl)
theorem bd_law_is_term (B : Bd P w K mg) : Binds K (fdOf K (He.ga K "_law_is_term")) ["_law_thing"] [] := (d_law_is_term B).bindsN fun _ _ _ _ _ _ us hl => match us, hl with | [_], _ => rfl
theorem d_law_is_around (B : Bd P w K mg) : FunD K "_law_is_around" "_law_is_around" (defArgs st_law_is_around) (defBody st_law_is_around) (defScope st_law_is_around) [] [] (He.ga K "_law_is_around") (fdOf K (He.ga K "_law_is_around")) := fd_of (B.c.def_ 10 (d := dd_law_is_around) rfl)
theorem bd_law_is_around (B : Bd P w K mg) : Binds K (fdOf K (He.ga K "_law_is_around")) ["_law_thing"] [] := (d_law_is_around B).bindsN fun _ _ _ _ _ _ us hl => match us, hl with | [_], _ => rfl
theorem d_law_spoilt (B : Bd P w K mg) : FunD K "_law_spoilt" "_law_spoilt" (defArgs st_law_spoilt) (defBody st_law_spoilt) (defScope st_law_spoilt) [] [] (He.ga K "_law_spoilt") (fdOf K (He.ga K "_law_spoilt")) := fd_of (B.c.def_ 11 (d := dd_law_spoilt) rfl)
theorem bd_law_spoilt (B : Bd P w K mg) : Binds K (fdOf K (He.ga K "_law_spoilt")) ["_law_purse_here", "_law_thing", "_law_deep"] [] := (d_law_spoilt B).bindsN fun _ _ _ _ _ _ us hl => match us, hl with | [_, _, _], _ => rfl
theorem d_more_due (B : Bd P w K mg) : FunD K "more_due" "more_due" (defArgs st_more_due) (defBody st_more_due) (defScope st_more_due) [] [] (He.ga K "more_due") (fdOf K (He.ga K "more_due")) := fd_of (B.c.def_ 12 (d := dd_more_due) rfl)
theorem bd_more_due (B : Bd P w K mg) : Binds K (fdOf K (He.ga K "more_due")) ["number"] [] := (d_more_due B).bindsN fun _ _ _ _ _ _ us hl => match us, hl with | [_], _ => rfl
theorem d_is_read (B : Bd P w K mg) : FunD K "is_read" "is_read" (defArgs st_is_read) (defBody st_is_read) (defScope st_is_read) [] [] (He.ga K "is_read") (fdOf K (He.ga K "is_read")) := fd_of (B.c.def_ 13 (d := dd_is_read) rfl)
theorem bd_is_read (B : Bd P w K mg) : Binds K (fdOf K (He.ga K "is_read")) ["numbers"] [] := (d_is_read B).bindsN fun _ _ _ _ _ _ us hl => match us, hl with | [_], _ => rfl
theorem d_is_term (B : Bd P w K mg) : FunD K "is_term" "is_term" (defArgs st_is_term) (defBody st_is_term) (defScope st_is_term) [] [] (He.ga K "is_term") (fdOf K (He.ga K "is_term")) := fd_of (B.c.def_ 14 (d := dd_is_term) rfl)
theorem bd_is_term (B : Bd P w K mg) : Binds K (fdOf K (He.ga K "is_term")) ["thing"] [] := (d_is_term B).bindsN fun _ _ _ _ _ _ us hl => match us, hl with | [_], _ => rfl
theorem d_look_term (B : Bd P w K mg) : FunD K "look_term" "look_term" (defArgs st_look_term) (defBody st_look_term) (defScope st_look_term) [] [] (He.ga K "look_term") (fdOf K (He.ga K "look_term")) := fd_of (B.c.def_ 15 (d := dd_look_term) rfl)
theorem bd_look_term (B : Bd P w K mg) : Binds K (fdOf K (He.ga K "look_term")) ["thing"] [] := (d_look_term B).bindsN fun _ _ _ _ _ _ us hl => match us, hl with | [_], _ => rfl
theorem d_look_around (B : Bd P w K mg) : FunD K "look_around" "look_around" (defArgs st_look_around) (defBody st_look_around) (defScope st_look_around) [] [] (He.ga K "look_around") (fdOf K (He.ga K "look_around")) := fd_of (B.c.def_ 16 (d := dd_look_around) rfl)
theorem bd_look_around (B : Bd P w K mg) : Binds K (fdOf K (He.ga K "look_around")) ["thing"] [] := (d_look_around B).bindsN fun _ _ _ _ _ _ us hl => match us, hl with | [_], _ => rfl
theorem d_put_in_hole (B : Bd P w K mg) : FunD K "put_in_hole" "put_in_hole" (defArgs st_put_in_hole) (defBody st_put_in_hole) (defScope st_put_in_hole) [] [] (He.ga K "put_in_hole") (fdOf K (He.ga K "put_in_hole")) := fd_of (B.c.def_ 17 (d := dd_put_in_hole) rfl)
theorem bd_put_in_hole (B : Bd P w K mg) : Binds K (fdOf K (He.ga K "put_in_hole")) ["outer", "term"] [] := (d_put_in_hole B).bindsN fun _ _ _ _ _ _ us hl => match us, hl with | [_, _], _ => rfl
theorem d_filled (B : Bd P w K mg) : FunD K "filled" "filled" (defArgs st_filled) (defBody st_filled) (defScope st_filled) [] [] (He.ga K "filled") (fdOf K (He.ga K "filled")) := fd_of (B.c.def_ 18 (d := dd_filled) rfl)
theorem bd_filled (B : Bd P w K mg) : Binds K (fdOf K (He.ga K "filled")) ["outer", "term"] [] := (d_filled B).bindsN fun _ _ _ _ _ _ us hl => match us, hl with | [_, _], _ => rfl
theorem d_law_kind (B : Bd P w K mg) : FunD K "_law_kind" "_law_kind" (defArgs st_law_kind) (defBody st_law_kind) (defScope st_law_kind) [] [] (He.ga K "_law_kind") (fdOf K (He.ga K "_law_kind")) := fd_of (B.c.def_ 19 (d := dd_law_kind) rfl)
theorem bd_law_kind (B : Bd P w K mg) : Binds K (fdOf K (He.ga K "_law_kind")) ["_law_e"] [] := (d_law_kind B).bindsN fun _ _ _ _ _ _ us hl => match us, hl with | [_], _ => rfl
theorem d_law_say (B : Bd P w K mg) : FunD K "_law_say" "_law_say" (defArgs st_law_say) (defBody st_law_say) (defScope st_law_say) [] [] (He.ga K "_law_say") (fdOf K (He.ga K "_law_say")) := fd_of (B.c.def_ 20 (d := dd_law_say) rfl)
theorem bd_law_say (B : Bd P w K mg) : Binds K (fdOf K (He.ga K "_law_say")) ["_law_outer", "_law_term_here"] [] := (d_law_say B).bindsN fun _ _ _ _ _ _ us hl => match us, hl with | [_, _], _ => rfl
theorem d_law_due (B : Bd P w K mg) : FunD K "_law_due" "_law_due" (defArgs st_law_due) (defBody st_law_due) (defScope st_law_due) [] [] (He.ga K "_law_due") (fdOf K (He.ga K "_law_due")) := fd_of (B.c.def_ 21 (d := dd_law_due) rfl)
theorem bd_law_due (B : Bd P w K mg) : Binds K (fdOf K (He.ga K "_law_due")) ["_law_outer", "_law_term_here"] [] := (d_law_due B).bindsN fun _ _ _ _ _ _ us hl => match us, hl with | [_, _], _ => rfl
theorem d_law (B : Bd P w K mg) : FunD K "law" "law" (defArgs st_law) (defBody st_law) (defScope st_law) [] [] (He.ga K "law") (fdOf K (He.ga K "law")) := fd_of (B.c.def_ 22 (d := dd_law) rfl)
theorem bd_law (B : Bd P w K mg) : Binds K (fdOf K (He.ga K "law")) ["_law_script"] [] := (d_law B).bindsN fun _ _ _ _ _ _ us hl => match us, hl with | [_], _ => rfl
theorem sc_is_whole : FnScope ["thing"] ["thing"] (defScope st_is_whole) := ⟨rfl, rfl, rfl, by decide +kernel, rfl, by decide +kernel, by decide +kernel⟩
noncomputable def b_is_whole : SE := (sRet (eAnd2 (eUn (cIsi "int") (eVar 0)) (eNot1 (eUn (cIsi "bool") (eVar 0)))))
noncomputable def f_is_whole : Fn := runF 1 1 b_is_whole
theorem ok_is_whole (B : Bd P w K mg) : FnOk P w K mg base (L2.CX P w) 1 (He.ga K "is_whole") (fdOf K (He.ga K "is_whole")) ["thing"] (spF K mg 1 f_is_whole) := by
  have nd := sc_is_whole.nd
  refine fn_okF (d_is_whole B) sc_is_whole b_is_whole 1 rfl fun cdv A outer s H E hr => ?_
  exact (fb_one (fs_ret (fe_and (fe_isi (.inl rfl) (z_isinstance B) (z_int B) (fv 0)) (fe_one (fe_not (fe_isi (.inr (.inl rfl)) (z_isinstance B) (z_bool B) (fv 0)))))))
theorem sc_awaited_behind : FnScope ["number"] ["number"] (defScope st_awaited_behind) := ⟨rfl, rfl, rfl, by decide +kernel, rfl, by decide +kernel, by decide +kernel⟩
noncomputable def b_awaited_behind : SE := (sSeq (sIf (tV (eBin dEq (eVar 0) (eC (.int (-2)))))
  (sRet (eC (.int 1)))
  sPass)
  (sSeq (sIf (tOr2 (tV (eBin dGe (eVar 0) (eC (.int 0)))) (tV (eBin dEq (eVar 0) (eC (.int (-3))))))
  (sRet (eUn dNeg (eC (.int 1))))
  sPass)
  (sRet (eC (.int 0)))))
noncomputable def f_awaited_behind : Fn := runF 1 1 b_awaited_behind
theorem ok_awaited_behind (B : Bd P w K mg) : FnOk P w K mg base (L2.CX P w) 1 (He.ga K "awaited_behind") (fdOf K (He.ga K "awaited_behind")) ["number"] (spF K mg 1 f_awaited_behind) := by
  have nd := sc_awaited_behind.nd
  refine fn_okF (d_awaited_behind B) sc_awaited_behind b_awaited_behind 1 rfl fun cdv A outer s H E hr => ?_
  exact (fb_cons (fs_if (ftc (fo_eq hr.units) (fv 0) (fcI (m_GIFT B)))
  (fb_one (fs_ret fe_int))
  fb_nil)
  (fb_cons (fs_if (ft_w (fw_or (ftc (fo_ge) (fv 0) fe_int) (fw_or1 (ftc (fo_eq hr.units) (fv 0) (fcI (m_HOLE B))))))
  (fb_one (fs_ret (fe_un fu_neg fe_int)))
  fb_nil)
  (fb_one (fs_ret fe_int))))
theorem sc_is_surrounding : FnScope ["thing", "holes", "awaited", "number"] ["thing"] (defScope st_is_surrounding) := ⟨rfl, rfl, rfl, by decide +kernel, rfl, by decide +kernel, by decide +kernel⟩
noncomputable def b_is_surrounding : SE := (sSeq (sIf (tOr2 (tNot1 (tV (eUn (cIsi "tuple") (eVar 0)))) (tV (eBin dGt (eCall cLen (aCons (eVar 0) aNil)) (eC (.int (200))))))
  (sRet (eC (.bl false)))
  sPass)
  (sSeq (sAsg (eC (.int 0)) (gN 1))
  (sSeq (sAsg (eC (.int 1)) (gN 2))
  (sSeq (sFor (iSeq (eVar 0)) (gN 3)
  (sSeq (sIf (tOr2 (tNot1 (tV (eCallF 1 f_is_whole (aCons (eVar 3) aNil)))) (tOr2 (tV (eBin dLt (eVar 3) (eC (.int (-3))))) (tOr2 (tV (eBin dGt (eVar 3) (eC (.int (9999))))) (tV (eBin dEq (eVar 2) (eC (.int 0)))))))
  (sRet (eC (.bl false)))
  sPass)
  (sSeq (sAug 1 dIadd (eCall cInt (aCons (eBin dEq (eVar 3) (eC (.int (-3)))) aNil)))
  (sAug 2 dIadd (eCallF 1 f_awaited_behind (aCons (eVar 3) aNil))))))
  (sRet (eAnd2 (eBin dEq (eVar 1) (eC (.int 1))) (eBin dEq (eVar 2) (eC (.int 0)))))))))
noncomputable def f_is_surrounding : Fn := runF 1 4 b_is_surrounding
theorem ok_is_surrounding (B : Bd P w K mg) : FnOk P w K mg base (L2.CX P w) 2 (He.ga K "is_surrounding") (fdOf K (He.ga K "is_surrounding")) ["thing"] (spF K mg 1 f_is_surrounding) := by
  have nd := sc_is_surrounding.nd
  refine fn_okF (d_is_surrounding B) sc_is_surrounding b_is_surrounding 4 rfl fun cdv A outer s H E hr => ?_
  exact (fb_cons (fs_if (ft_w (fw_or (ft_not (ft_val (fe_isi (.inr (.inr (.inr (.inl rfl)))) (z_isinstance B) (z_tuple B) (fv 0)))) (fw_or1 (ftc (fo_gt) (fe_callB (fc_len) (z_len B) (fa_cons (fv 0) fa_nil)) (fcI (m_MOST_AROUND B))))))
  (fb_one (fs_ret fe_bl))
  fb_nil)
  (fb_cons (fsS 1 nd fe_int)
  (fb_cons (fsS 2 nd fe_int)
  (fb_cons (fs_for (passes_of rfl) rfl (fi_seq (fv 0)) (fgN 3 nd)
  (fb_cons (fs_if (ft_w (fw_or (ft_not (ft_val (fe_call (ok_is_whole B) (hr.mono (by omega)) (takes_of rfl rfl rfl rfl) (m_is_whole B) (d_is_whole B).kp (bd_is_whole B) (fa_cons (fv 3) fa_nil)))) (fw_or (ftc (fo_lt) (fv 3) (fcI (m_HOLE B))) (fw_or (ftc (fo_gt) (fv 3) (fcI (m_FAR B))) (fw_or1 (ftc (fo_eq hr.units) (fv 2) fe_int))))))
  (fb_one (fs_ret fe_bl))
  fb_nil)
  (fb_cons (fsA 1 nd fo_iadd (fe_callT (fc_int) (z_int B) (fa_cons (fcp (fo_eq hr.units) (fv 3) (fcI (m_HOLE B))) fa_nil)))
  (fb_one (fsA 2 nd fo_iadd (fe_call (ok_awaited_behind B) (hr.mono (by omega)) (takes_of rfl rfl rfl rfl) (m_awaited_behind B) (d_awaited_behind B).kp (bd_awaited_behind B) (fa_cons (fv 3) fa_nil)))))))
  (fb_one (fs_ret (fe_and (fcp (fo_eq hr.units) (fv 1) fe_int) (fe_one (fcp (fo_eq hr.units) (fv 2) fe_int)))))))))
theorem sc_law_purse : FnScope ["_law_script", "_law_at", "_law_cell", "_law_far"] ["_law_script", "_law_at"] (defScope st_law_purse) := ⟨rfl, rfl, rfl, by decide +kernel, rfl, by decide +kernel, by decide +kernel⟩
noncomputable def b_law_purse : SE := (sSeq (sAsg (eC (.int 0)) (gN 2))
  (sSeq (sIf (tV (eBin dLt (eVar 1) (eCall cLen (aCons (eVar 0) aNil))))
  (sAsg (eBin dIx (eVar 0) (eVar 1)) (gN 2))
  sPass)
  (sSeq (sAsg (eCall cAbs (aCons (eVar 2) aNil)) (gN 3))
  (sRet (eLst (aCons (eBin dMul (eVar 3) (eCall cInt (aCons (eBin dGe (eVar 3) (eBin dPow (eC (.int 10)) (eC (.int 18)))) aNil))) (aCons (eBin dMod (eBin dAdd (eBin dAdd (eBin dMod (eVar 2) (eC (.int 2147483647))) (eBin dMul (eC (.int 7919)) (eVar 1))) (eC (.int 17))) (eC (.int 2147483647))) (aCons (eC (.int 0)) aNil))))))))
noncomputable def f_law_purse : Fn := runR 2 4 b_law_purse
theorem ok_law_purse (B : Bd P w K mg) : FnOk P w K mg base (L2.CX P w) 1 (He.ga K "_law_purse") (fdOf K (He.ga K "_law_purse")) ["_law_script", "_law_at"] (spF K mg 2 f_law_purse) := by
  have nd := sc_law_purse.nd
  refine fn_okR (d_law_purse B) sc_law_purse b_law_purse 4 rfl fun cdv A outer s H E hr => ?_
  exact (fb_cons (fsS 2 nd fe_int)
  (fb_cons (fs_if (ftc (fo_lt) (fv 1) (fe_callB (fc_len) (z_len B) (fa_cons (fv 0) fa_nil)))
  (fb_one (fsS 2 nd (fe_ix fi_ix (fv 0) (fv 1))))
  fb_nil)
  (fb_cons (fsS 3 nd (fe_callB (fc_abs) (z_abs B) (fa_cons (fv 2) fa_nil)))
  (fb_one (fs_ret (fe_lst (fa_cons (fe_bin fo_mul (fv 3) (fe_callT (fc_int) (z_int B) (fa_cons (fcp (fo_ge) (fv 3) (fe_bin fo_pow fe_int fe_int)) fa_nil))) (fa_cons (fe_bin fo_mod (fe_bin fo_add (fe_bin fo_add (fe_bin fo_mod (fv 2) fe_int) (fe_bin fo_mul fe_int (fv 1))) fe_int) fe_int) (fa_cons fe_int fa_nil)))))))))
theorem sc_law_take : FnScope ["_law_purse_here", "_law_many", "_law_digit", "_law_turn", "_law_one", "_law_other"] ["_law_purse_here", "_law_many"] (defScope st_law_take) := ⟨rfl, rfl, rfl, by decide +kernel, rfl, by decide +kernel, by decide +kernel⟩
noncomputable def b_law_take : SE := (sSeq (sIf (tV (eBin dGt (eBin dIx (eVar 0) (eC (.int 0))) (eC (.int 0))))
  (sSeq (sAsg (eBin dMod (eBin dIx (eVar 0) (eC (.int 0))) (eVar 1)) (gN 2))
  (sSeq (sSub (eBin dFdiv (eBin dIx (eVar 0) (eC (.int 0))) (eVar 1)) (eVar 0) (eC (.int 0)) dSet)
  (sRet (eVar 2))))
  sPass)
  (sSeq (sSub (eBin dAdd (eBin dIx (eVar 0) (eC (.int 2))) (eC (.int 1))) (eVar 0) (eC (.int 2)) dSet)
  (sSeq (sAsg (eBin dIx (eVar 0) (eC (.int 2))) (gN 3))
  (sSeq (sAsg (eBin dMod (eBin dPow (eBin dAdd (eBin dAdd (eBin dIx (eVar 0) (eC (.int 1))) (eBin dMul (eBin dMul (eC (.int 48271)) (eVar 3)) (eVar 3))) (eC (.int 1))) (eC (.int 5))) (eC (.int 2147483647))) (gN 4))
  (sSeq (sAsg (eBin dMod (eBin dPow (eBin dAdd (eBin dMul (eVar 4) (eBin dAdd (eBin dMul (eC (.int 2)) (eVar 3)) (eC (.int 30011)))) (eVar 3)) (eC (.int 3))) (eC (.int 998244353))) (gN 5))
  (sRet (eBin dMod (eBin dFdiv (eBin dAdd (eBin dMul (eVar 4) (eC (.int 998244353))) (eVar 5)) (eC (.int 1009))) (eVar 1))))))))
noncomputable def f_law_take : Fn := runF 2 6 b_law_take
theorem ok_law_take (B : Bd P w K mg) : FnOk P w K mg base (L2.CX P w) 1 (He.ga K "_law_take") (fdOf K (He.ga K "_law_take")) ["_law_purse_here", "_law_many"] (spF K mg 2 f_law_take) := by
  have nd := sc_law_take.nd
  refine fn_okF (d_law_take B) sc_law_take b_law_take 6 rfl fun cdv A outer s H E hr => ?_
  exact (fb_cons (fs_if (ftc (fo_gt) (fe_ix fi_ix (fv 0) fe_int) fe_int)
  (fb_cons (fsS 2 nd (fe_bin fo_mod (fe_ix fi_ix (fv 0) fe_int) (fv 1)))
  (fb_cons (fsu (fe_bin fo_fdiv (fe_ix fi_ix (fv 0) fe_int) (fv 1)) (fv 0) fe_int)
  (fb_one (fs_ret (fv 2)))))
  fb_nil)
  (fb_cons (fsu (fe_bin fo_add (fe_ix fi_ix (fv 0) fe_int) fe_int) (fv 0) fe_int)
  (fb_cons (fsS 3 nd (fe_ix fi_ix (fv 0) fe_int))
  (fb_cons (fsS 4 nd (fe_bin fo_mod (fe_bin fo_pow (fe_bin fo_add (fe_bin fo_add (fe_ix fi_ix (fv 0) fe_int) (fe_bin fo_mul (fe_bin fo_mul fe_int (fv 3)) (fv 3))) fe_int) fe_int) fe_int))
  (fb_cons (fsS 5 nd (fe_bin fo_mod (fe_bin fo_pow (fe_bin fo_add (fe_bin fo_mul (fv 4) (fe_bin fo_add (fe_bin fo_mul fe_int (fv 3)) fe_int)) (fv 3)) fe_int) fe_int))
  (fb_one (fs_ret (fe_bin fo_mod (fe_bin fo_fdiv (fe_bin fo_add (fe_bin fo_mul (fv 4) fe_int) (fv 5)) fe_int) (fv 1)))))))))
theorem sc_law_term : FnScope ["_law_purse_here", "_law_most", "_law_spots", "_law_found", "_law_wait", "_law_turns", "_law_room", "_law_sort", "_law_bare"] ["_law_purse_here", "_law_most", "_law_spots"] (defScope st_law_term) := ⟨rfl, rfl, rfl, by decide +kernel, rfl, by decide +kernel, by decide +kernel⟩
noncomputable def b_law_term : SE := (sSeq (sAsg (eLst aNil) (gN 3))
  (sSeq (sAsg (eLst (aCons (eC (.int 0)) aNil)) (gN 4))
  (sSeq (whileLoop (tV (eBin dNe (eVar 4) (eLst aNil)))
  (sSeq (sAsg (eMtL mPop (eVar 4) aNil) (gN 5))
  (sSeq (sAsg (eBin dSub (eBin dSub (eBin dSub (eVar 1) (eCall cLen (aCons (eVar 3) aNil))) (eCall cLen (aCons (eVar 4) aNil))) (eC (.int 1))) (gN 6))
  (sSeq (sAsg (eCallF 2 f_law_take (aCons (eVar 0) (aCons (eC (.int 7)) aNil))) (gN 7))
  (sSeq (sAsg (eBin dEq (eBin dAdd (eVar 5) (eVar 2)) (eC (.int 0))) (gN 8))
  (sIf (tOr2 (tAnd2 (tV (eBin dLt (eVar 7) (eC (.int 2)))) (tV (eBin dGt (eVar 6) (eC (.int 0))))) (tAnd2 (tV (eVar 8)) (tOr2 (tV (eBin dLt (eVar 7) (eC (.int 5)))) (tV (eBin dLt (eVar 6) (eC (.int 2)))))))
  (sSeq (sDrop (eMtL mApp (eVar 3) (aCons (eUn dNeg (eC (.int 1))) aNil)))
  (sDrop (eMtL mApp (eVar 4) (aCons (eBin dAdd (eVar 5) (eC (.int 1))) aNil))))
  (sIf (tAnd2 (tV (eBin dGt (eVar 6) (eC (.int 1)))) (tOr2 (tV (eBin dLt (eVar 7) (eC (.int 5)))) (tV (eVar 8))))
  (sSeq (sDrop (eMtL mApp (eVar 3) (aCons (eUn dNeg (eC (.int 2))) aNil)))
  (sAsg (eBin dAdd (eVar 4) (eLst (aCons (eVar 5) (aCons (eVar 5) aNil)))) (gN 4)))
  (sDrop (eMtL mApp (eVar 3) (aCons (eCallF 2 f_law_take (aCons (eVar 0) (aCons (eBin dAdd (eVar 5) (eVar 2)) aNil))) aNil))))))))) 1000000)
  (sRet (eCall cTuple (aCons (eVar 3) aNil))))))
noncomputable def f_law_term : Fn := runF 3 9 b_law_term
theorem ok_law_term (B : Bd P w K mg) : FnOk P w K mg base (L2.CX P w) 2 (He.ga K "_law_term") (fdOf K (He.ga K "_law_term")) ["_law_purse_here", "_law_most", "_law_spots"] (spF K mg 3 f_law_term) := by
  have nd := sc_law_term.nd
  refine fn_okF (d_law_term B) sc_law_term b_law_term 9 rfl fun cdv A outer s H E hr => ?_
  exact (fb_cons (fsS 3 nd (fe_lst fa_nil))
  (fb_cons (fsS 4 nd (fe_lst (fa_cons fe_int fa_nil)))
  (fb_cons (fs_while 1000000 (passes_of rfl) (ftc (fo_ne hr.units) (fv 4) (fe_lst fa_nil))
  (fb_cons (fsS 5 nd (fe_mt0 fm_pop PySem.F.slot_list_pop PySem.F.type_list_pop (fv 4)))
  (fb_cons (fsS 6 nd (fe_bin fo_sub (fe_bin fo_sub (fe_bin fo_sub (fv 1) (fe_callB (fc_len) (z_len B) (fa_cons (fv 3) fa_nil))) (fe_callB (fc_len) (z_len B) (fa_cons (fv 4) fa_nil))) fe_int))
  (fb_cons (fsS 7 nd (fe_call (ok_law_take B) (hr.mono (by omega)) (takes_of rfl rfl rfl rfl) (m_law_take B) (d_law_take B).kp (bd_law_take B) (fa_cons (fv 0) (fa_cons fe_int fa_nil))))
  (fb_cons (fsS 8 nd (fcp (fo_eq hr.units) (fe_bin fo_add (fv 5) (fv 2)) fe_int))
  (fb_one (fs_if (ft_w (fw_or (ft_w (fw_and (ftc (fo_lt) (fv 7) fe_int) (fw_and1 (ftc (fo_gt) (fv 6) fe_int)))) (fw_or1 (ft_w (fw_and (ft_val (fv 8)) (fw_and1 (ft_w (fw_or (ftc (fo_lt) (fv 7) fe_int) (fw_or1 (ftc (fo_lt) (fv 6) fe_int))))))))))
  (fb_cons (fs_expr (fe_mt fm_app PySem.F.slot_list_append PySem.F.type_list_append (fv 3) (fa_cons (fe_un fu_neg fe_int) fa_nil)))
  (fb_one (fs_expr (fe_mt fm_app PySem.F.slot_list_append PySem.F.type_list_append (fv 4) (fa_cons (fe_bin fo_add (fv 5) fe_int) fa_nil)))))
  (fb_one (fs_if (ft_w (fw_and (ftc (fo_gt) (fv 6) fe_int) (fw_and1 (ft_w (fw_or (ftc (fo_lt) (fv 7) fe_int) (fw_or1 (ft_val (fv 8))))))))
  (fb_cons (fs_expr (fe_mt fm_app PySem.F.slot_list_append PySem.F.type_list_append (fv 3) (fa_cons (fe_un fu_neg fe_int) fa_nil)))
  (fb_one (fsS 4 nd (fe_bin fo_add (fv 4) (fe_lst (fa_cons (fv 5) (fa_cons (fv 5) fa_nil)))))))
  (fb_one (fs_expr (fe_mt fm_app PySem.F.slot_list_append PySem.F.type_list_append (fv 3) (fa_cons (fe_call (ok_law_take B) (hr.mono (by omega)) (takes_of rfl rfl rfl rfl) (m_law_take B) (d_law_take B).kp (bd_law_take B) (fa_cons (fv 0) (fa_cons (fe_bin fo_add (fv 5) (fv 2)) fa_nil))) fa_nil)))))))))))))
  (fb_one (fs_ret (fe_callT (fc_tuple) (z_tuple B) (fa_cons (fv 3) fa_nil)))))))
theorem sc_law_end : FnScope ["_law_term_here", "_law_place", "_law_due_here"] ["_law_term_here", "_law_place"] (defScope st_law_end) := ⟨rfl, rfl, rfl, by decide +kernel, rfl, by decide +kernel, by decide +kernel⟩
noncomputable def b_law_end : SE := (sSeq (sAsg (eC (.int 1)) (gN 2))
  (sSeq (whileLoop (tV (eBin dGt (eVar 2) (eC (.int 0))))
  (sSeq (sAsg (eBin dAdd (eVar 2) (eGet2 (eDisp [((eUn dNeg (eC (.int 2))), (eC (.int 1))), ((eUn dNeg (eC (.int 1))), (eC (.int 0)))]) (eBin dIx (eVar 0) (eVar 1)) (eUn dNeg (eC (.int 1))))) (gN 2))
  (sAsg (eBin dAdd (eVar 1) (eC (.int 1))) (gN 1))) 1000000)
  (sRet (eVar 1))))
noncomputable def f_law_end : Fn := runF 2 3 b_law_end
theorem ok_law_end (B : Bd P w K mg) : FnOk P w K mg base (L2.CX P w) 1 (He.ga K "_law_end") (fdOf K (He.ga K "_law_end")) ["_law_term_here", "_law_place"] (spF K mg 2 f_law_end) := by
  have nd := sc_law_end.nd
  refine fn_okF (d_law_end B) sc_law_end b_law_end 3 rfl fun cdv A outer s H E hr => ?_
  exact (fb_cons (fsS 2 nd fe_int)
  (fb_cons (fs_while 1000000 (passes_of rfl) (ftc (fo_gt) (fv 2) fe_int)
  (fb_cons (fsS 2 nd (fe_bin fo_add (fv 2) (fe_get2 ((hu_of hr)) (fe_disp (fpp_cons (fe_un fu_neg fe_int) fe_int (fpp_cons (fe_un fu_neg fe_int) fe_int fpp_nil))) (fe_ix fi_ix (fv 0) (fv 1)) (fe_un fu_neg fe_int) m2)))
  (fb_one (fsS 1 nd (fe_bin fo_add (fv 1) fe_int)))))
  (fb_one (fs_ret (fv 1)))))
theorem sc_law_around : FnScope ["_law_purse_here", "_law_most", "_law_term_here", "_law_place"] ["_law_purse_here", "_law_most"] (defScope st_law_around) := ⟨rfl, rfl, rfl, by decide +kernel, rfl, by decide +kernel, by decide +kernel⟩
noncomputable def b_law_around : SE := (sSeq (sAsg (eCallF 3 f_law_term (aCons (eVar 0) (aCons (eVar 1) (aCons (eC (.int 3)) aNil)))) (gN 2))
  (sSeq (sAsg (eCallF 2 f_law_take (aCons (eVar 0) (aCons (eCall cLen (aCons (eVar 2) aNil)) aNil))) (gN 3))
  (sRet (eBin dAdd (eBin dAdd (eSl dSl (eVar 2) oNone (oSome (eVar 3))) (eTup (aCons (eUn dNeg (eC (.int 3))) aNil))) (eSl dSl (eVar 2) (oSome (eCallF 2 f_law_end (aCons (eVar 2) (aCons (eVar 3) aNil)))) oNone)))))
noncomputable def f_law_around : Fn := runF 2 4 b_law_around
theorem ok_law_around (B : Bd P w K mg) : FnOk P w K mg base (L2.CX P w) 3 (He.ga K "_law_around") (fdOf K (He.ga K "_law_around")) ["_law_purse_here", "_law_most"] (spF K mg 2 f_law_around) := by
  have nd := sc_law_around.nd
  refine fn_okF (d_law_around B) sc_law_around b_law_around 4 rfl fun cdv A outer s H E hr => ?_
  exact (fb_cons (fsS 2 nd (fe_call (ok_law_term B) (hr.mono (by omega)) (takes_of rfl rfl rfl rfl) (m_law_term B) (d_law_term B).kp (bd_law_term B) (fa_cons (fv 0) (fa_cons (fv 1) (fa_cons fe_int fa_nil)))))
  (fb_cons (fsS 3 nd (fe_call (ok_law_take B) (hr.mono (by omega)) (takes_of rfl rfl rfl rfl) (m_law_take B) (d_law_take B).kp (bd_law_take B) (fa_cons (fv 0) (fa_cons (fe_callB (fc_len) (z_len B) (fa_cons (fv 2) fa_nil)) fa_nil))))
  (fb_one (fs_ret (fe_bin fo_add (fe_bin fo_add (fe_slice fs_slice (fv 2) fo_none (fo_some (fv 3))) (fe_tup (fa_cons (fe_un fu_neg fe_int) fa_nil))) (fe_slice fs_slice (fv 2) (fo_some (fe_call (ok_law_end B) (hr.mono (by omega)) (takes_of rfl rfl rfl rfl) (m_law_end B) (d_law_end B).kp (bd_law_end B) (fa_cons (fv 2) (fa_cons (fv 3) fa_nil)))) fo_none))))))
theorem sc_law_wholes : FnScope ["_law_thing", "_law_one"] ["_law_thing"] (defScope st_law_wholes) := ⟨rfl, rfl, rfl, by decide +kernel, rfl, by decide +kernel, by decide +kernel⟩
noncomputable def b_law_wholes : SE := (sRet (eCall cAll (aCons (eComp (iSeq (eVar 0)) (gN 1) (fun s t => noX (tTrue s t)) (fun s t => noX ((eAnd2 (eUn (cIsi "int") (eVar 1)) (eNot1 (eUn (cIsi "bool") (eVar 1)))) s t)) [1]) aNil)))
noncomputable def f_law_wholes : Fn := runF 1 2 b_law_wholes
theorem ok_law_wholes (B : Bd P w K mg) : FnOk P w K mg base (L2.CX P w) 1 (He.ga K "_law_wholes") (fdOf K (He.ga K "_law_wholes")) ["_law_thing"] (spF K mg 1 f_law_wholes) := by
  have nd := sc_law_wholes.nd
  refine fn_okF (d_law_wholes B) sc_law_wholes b_law_wholes 2 rfl fun cdv A outer s H E hr => ?_
  exact (fb_one (fs_ret (fe_callB (fc_all rfl) (z_all B) (fa_cons (fe_comp (own := [("_law_one", 1)]) rfl nd (fi_seq (fv 0)) (blkOk_by rfl) (fun _ => (fwN 1 nd)) (fun _ => fts_nil) (fun _ => (fe_and (fe_isi (.inl rfl) (z_isinstance B) (z_int B) (fv 1)) (fe_one (fe_not (fe_isi (.inr (.inl rfl)) (z_isinstance B) (z_bool B) (fv 1))))))) fa_nil))))
theorem sc_law_is_term : FnScope ["_law_thing", "_law_due_here", "_law_number"] ["_law_thing"] (defScope st_law_is_term) := ⟨rfl, rfl, rfl, by decide +kernel, rfl, by decide +kernel, by decide +kernel⟩
noncomputable def b_law_is_term : SE := (sSeq (sIf (tOr2 (tNot1 (tV (eUn (cIsi "tuple") (eVar 0)))) (tOr2 (tV (eBin dEq (eVar 0) (eTup aNil))) (tOr2 (tV (eBin dGt (eCall cLen (aCons (eVar 0) aNil)) (eC (.int 20000)))) (tNot1 (tV (eCallF 1 f_law_wholes (aCons (eVar 0) aNil)))))))
  (sRet (eC (.bl false)))
  sPass)
  (sSeq (sIf (tOr2 (tV (eBin dLt (eCall cMin (aCons (eVar 0) aNil)) (eUn dNeg (eC (.int 2))))) (tV (eBin dGt (eCall cMax (aCons (eVar 0) aNil)) (eC (.int 9999)))))
  (sRet (eC (.bl false)))
  sPass)
  (sSeq (sAsg (eC (.int 1)) (gN 1))
  (sSeq (sFor (iSeq (eVar 0)) (gN 2)
  (sSeq (sIf (tV (eBin dEq (eVar 1) (eC (.int 0))))
  (sRet (eC (.bl false)))
  sPass)
  (sAsg (eBin dAdd (eVar 1) (eGet2 (eDisp [((eUn dNeg (eC (.int 2))), (eC (.int 1))), ((eUn dNeg (eC (.int 1))), (eC (.int 0)))]) (eVar 2) (eUn dNeg (eC (.int 1))))) (gN 1))))
  (sRet (eBin dEq (eVar 1) (eC (.int 0))))))))
noncomputable def f_law_is_term : Fn := runF 1 3 b_law_is_term
theorem ok_law_is_term (B : Bd P w K mg) : FnOk P w K mg base (L2.CX P w) 2 (He.ga K "_law_is_term") (fdOf K (He.ga K "_law_is_term")) ["_law_thing"] (spF K mg 1 f_law_is_term) := by
  have nd := sc_law_is_term.nd
  refine fn_okF (d_law_is_term B) sc_law_is_term b_law_is_term 3 rfl fun cdv A outer s H E hr => ?_
  exact (fb_cons (fs_if (ft_w (fw_or (ft_not (ft_val (fe_isi (.inr (.inr (.inr (.inl rfl)))) (z_isinstance B) (z_tuple B) (fv 0)))) (fw_or (ftc (fo_eq hr.units) (fv 0) (fe_tup fa_nil)) (fw_or (ftc (fo_gt) (fe_callB (fc_len) (z_len B) (fa_cons (fv 0) fa_nil)) fe_int) (fw_or1 (ft_not (ft_val (fe_call (ok_law_wholes B) (hr.mono (by omega)) (takes_of rfl rfl rfl rfl) (m_law_wholes B) (d_law_wholes B).kp (bd_law_wholes B) (fa_cons (fv 0) fa_nil)))))))))
  (fb_one (fs_ret fe_bl))
  fb_nil)
  (fb_cons (fs_if (ft_w (fw_or (ftc (fo_lt) (fe_callB (fc_min rfl hr.units) (z_min B) (fa_cons (fv 0) fa_nil)) (fe_un fu_neg fe_int)) (fw_or1 (ftc (fo_gt) (fe_callB (fc_max rfl hr.units) (z_max B) (fa_cons (fv 0) fa_nil)) fe_int))))
  (fb_one (fs_ret fe_bl))
  fb_nil)
  (fb_cons (fsS 1 nd fe_int)
  (fb_cons (fs_for (passes_of rfl) rfl (fi_seq (fv 0)) (fgN 2 nd)
  (fb_cons (fs_if (ftc (fo_eq hr.units) (fv 1) fe_int)
  (fb_one (fs_ret fe_bl))
  fb_nil)
  (fb_one (fsS 1 nd (fe_bin fo_add (fv 1) (fe_get2 ((hu_of hr)) (fe_disp (fpp_cons (fe_un fu_neg fe_int) fe_int (fpp_cons (fe_un fu_neg fe_int) fe_int fpp_nil))) (fv 2) (fe_un fu_neg fe_int) m2))))))
  (fb_one (fs_ret (fcp (fo_eq hr.units) (fv 1) fe_int)))))))
theorem sc_law_is_around : FnScope ["_law_thing", "_law_place"] ["_law_thing"] (defScope st_law_is_around) := ⟨rfl, rfl, rfl, by decide +kernel, rfl, by decide +kernel, by decide +kernel⟩
noncomputable def b_law_is_around : SE := (sSeq (sIf (tOr2 (tNot1 (tV (eUn (cIsi "tuple") (eVar 0)))) (tOr2 (tV (eBin dGt (eCall cLen (aCons (eVar 0) aNil)) (eC (.int 200)))) (tOr2 (tNot1 (tV (eCallF 1 f_law_wholes (aCons (eVar 0) aNil)))) (tV (eBin dNe (eMtS mCount mCountT (eVar 0) (aCons (eUn dNeg (eC (.int 3))) aNil)) (eC (.int 1)))))))
  (sRet (eC (.bl false)))
  sPass)
  (sSeq (sAsg (eMtS mIndex mIndexT (eVar 0) (aCons (eUn dNeg (eC (.int 3))) aNil)) (gN 1))
  (sRet (eCallF 1 f_law_is_term (aCons (eBin dAdd (eBin dAdd (eSl dSl (eVar 0) oNone (oSome (eVar 1))) (eTup (aCons (eC (.int 0)) aNil))) (eSl dSl (eVar 0) (oSome (eBin dAdd (eVar 1) (eC (.int 1)))) oNone)) aNil)))))
noncomputable def f_law_is_around : Fn := runF 1 2 b_law_is_around
theorem ok_law_is_around (B : Bd P w K mg) : FnOk P w K mg base (L2.CX P w) 3 (He.ga K "_law_is_around") (fdOf K (He.ga K "_law_is_around")) ["_law_thing"] (spF K mg 1 f_law_is_around) := by
  have nd := sc_law_is_around.nd
  refine fn_okF (d_law_is_around B) sc_law_is_around b_law_is_around 2 rfl fun cdv A outer s H E hr => ?_
  exact (fb_cons (fs_if (ft_w (fw_or (ft_not (ft_val (fe_isi (.inr (.inr (.inr (.inl rfl)))) (z_isinstance B) (z_tuple B) (fv 0)))) (fw_or (ftc (fo_gt) (fe_callB (fc_len) (z_len B) (fa_cons (fv 0) fa_nil)) fe_int) (fw_or (ft_not (ft_val (fe_call (ok_law_wholes B) (hr.mono (by omega)) (takes_of rfl rfl rfl rfl) (m_law_wholes B) (d_law_wholes B).kp (bd_law_wholes B) (fa_cons (fv 0) fa_nil)))) (fw_or1 (ftc (fo_ne hr.units) (fe_mtS fm_count fm_countT PySem.F.slot_list_count PySem.F.slot_tuple_count PySem.F.type_list_count PySem.F.type_tuple_count (fv 0) (fa_cons (fe_un fu_neg fe_int) fa_nil)) fe_int))))))
  (fb_one (fs_ret fe_bl))
  fb_nil)
  (fb_cons (fsS 1 nd (fe_mtS fm_index fm_indexT PySem.F.slot_list_index PySem.F.slot_tuple_index PySem.F.type_list_index PySem.F.type_tuple_index (fv 0) (fa_cons (fe_un fu_neg fe_int) fa_nil)))
  (fb_one (fs_ret (fe_call (ok_law_is_term B) (hr.mono (by omega)) (takes_of rfl rfl rfl rfl) (m_law_is_term B) (d_law_is_term B).kp (bd_law_is_term B) (fa_cons (fe_bin fo_add (fe_bin fo_add (fe_slice fs_slice (fv 0) fo_none (fo_some (fv 1))) (fe_tup (fa_cons fe_int fa_nil))) (fe_slice fs_slice (fv 0) (fo_some (fe_bin fo_add (fv 1) fe_int)) fo_none)) fa_nil))))))
theorem sc_law_spoilt : FnScope ["_law_purse_here", "_law_thing", "_law_deep", "_law_way", "_law_far", "_law_some", "_law_at", "_law_sign", "_law_formed"] ["_law_purse_here", "_law_thing", "_law_deep"] (defScope st_law_spoilt) := ⟨rfl, rfl, rfl, by decide +kernel, rfl, by decide +kernel, by decide +kernel⟩
noncomputable def f_law_spoilt : Nat → Fn
  | 0 => fun _ _ => .bad
  | fu + 1 => runF 3 9 ((sSeq (sAsg (eCallF 2 f_law_take (aCons (eVar 0) (aCons (eC (.int 10)) aNil))) (gN 3))
  (sSeq (sAsg (eCallF 2 f_law_take (aCons (eVar 0) (aCons (eC (.int 60)) aNil))) (gN 4))
  (sSeq (sIf (tV (eUn (cIsi2 "list" "tuple") (eVar 1)))
  (sSeq (sAsg (eCall cList (aCons (eVar 1) aNil)) (gN 5))
  (sSeq (sIf (tAnd2 (tV (eBin dGt (eCall cLen (aCons (eVar 5) aNil)) (eC (.int 0)))) (tV (eBin dLt (eVar 3) (eC (.int 8)))))
  (sSeq (sAsg (eBin dMod (eVar 4) (eCall cLen (aCons (eVar 5) aNil))) (gN 6))
  (sSeq (sIf (tAnd2 (tV (eBin dLt (eVar 3) (eC (.int 6)))) (tV (eBin dLt (eVar 2) (eC (.int 4)))))
  (sSub (eCallF 3 (f_law_spoilt fu) (aCons (eVar 0) (aCons (eBin dIx (eVar 5) (eVar 6)) (aCons (eBin dAdd (eVar 2) (eC (.int 1))) aNil)))) (eVar 5) (eVar 6) dSet)
  (sIf (tV (eBin dLt (eVar 3) (eC (.int 7))))
  (sDrop (eMtL mPopAt (eVar 5) (aCons (eVar 6) aNil)))
  (sDrop (eMtL mIns (eVar 5) (aCons (eVar 6) (aCons (eBin dIx (eVar 5) (eCallF 2 f_law_take (aCons (eVar 0) (aCons (eCall cLen (aCons (eVar 5) aNil)) aNil)))) aNil))))))
  (sRet (eBin dIx (eLst (aCons (eVar 5) (aCons (eCall cTuple (aCons (eVar 5) aNil)) aNil))) (eCall cInt (aCons (eUn (cIsi "tuple") (eVar 1)) aNil))))))
  sPass)
  (sRet (eBin dIx (eLst (aCons (eVar 5) (aCons (eCall cTuple (aCons (eVar 5) aNil)) (aCons (eRev (eVar 5)) (aCons (eCall cTuple (aCons (eRev (eVar 5)) aNil)) (aCons (eC .non) (aCons (eC (.str "none")) (aCons (eC (.int 0)) aNil)))))))) (eBin dMod (eVar 4) (eC (.int 7)))))))
  sPass)
  (sSeq (sIf (tV (eUn (cIsi "str") (eVar 1)))
  (sSeq (sAsg (eBin dMod (eVar 4) (eBin dAdd (eCall cLen (aCons (eVar 1) aNil)) (eC (.int 1)))) (gN 6))
  (sSeq (sAsg (eBin dIx (eC (.str "abcdefghijklmnopqrstuvwxyz0123456789-")) (eCallF 2 f_law_take (aCons (eVar 0) (aCons (eC (.int 37)) aNil)))) (gN 7))
  (sSeq (sAsg (eLst (aCons (eBin dAdd (eBin dAdd (eSl dSl (eVar 1) oNone (oSome (eVar 6))) (eVar 7)) (eSl dSl (eVar 1) (oSome (eVar 6)) oNone)) (aCons (eBin dAdd (eSl dSl (eVar 1) oNone (oSome (eVar 6))) (eSl dSl (eVar 1) (oSome (eBin dAdd (eVar 6) (eC (.int 1)))) oNone)) (aCons (eBin dAdd (eBin dAdd (eSl dSl (eVar 1) oNone (oSome (eVar 6))) (eVar 7)) (eSl dSl (eVar 1) (oSome (eBin dAdd (eVar 6) (eC (.int 1)))) oNone)) aNil)))) (gN 8))
  (sRet (eBin dIx (eBin dAdd (eVar 8) (eLst (aCons (eC .non) (aCons (eC (.int 1)) aNil)))) (eBin dFdiv (eVar 3) (eC (.int 2))))))))
  sPass)
  (sSeq (sIf (tOr2 (tV (eUn (cIsi "bool") (eVar 1))) (tV (eBin dIs (eVar 1) (eC .non))))
  (sRet (eBin dIx (eLst (aCons (eC (.int 0)) (aCons (eC (.int 1)) (aCons (eC (.bl true)) (aCons (eC (.bl false)) (aCons (eC .non) (aCons (eC (.str "True")) (aCons (eTup aNil) (aCons (eLst aNil) (aCons (eTup (aCons (eC (.bl true)) aNil)) (aCons (eUn dNeg (eC (.int 1))) aNil))))))))))) (eVar 3)))
  sPass)
  (sRet (eBin dIx (eLst (aCons (eBin dAdd (eVar 1) (eC (.int 1))) (aCons (eBin dSub (eVar 1) (eC (.int 1))) (aCons (eBin dAdd (eVar 1) (eC (.int 2))) (aCons (eUn dNeg (eVar 1)) (aCons (eVar 4) (aCons (eBin dAdd (eVar 1) (eBin dPow (eC (.int 10)) (eC (.int 30)))) (aCons (eC (.bl true)) (aCons (eCall cStr (aCons (eVar 4) aNil)) (aCons (eC .non) (aCons (eTup (aCons (eVar 1) aNil)) aNil))))))))))) (eVar 3)))))))))
noncomputable def b_law_spoilt (fu : Nat) : SE := (sSeq (sAsg (eCallF 2 f_law_take (aCons (eVar 0) (aCons (eC (.int 10)) aNil))) (gN 3))
  (sSeq (sAsg (eCallF 2 f_law_take (aCons (eVar 0) (aCons (eC (.int 60)) aNil))) (gN 4))
  (sSeq (sIf (tV (eUn (cIsi2 "list" "tuple") (eVar 1)))
  (sSeq (sAsg (eCall cList (aCons (eVar 1) aNil)) (gN 5))
  (sSeq (sIf (tAnd2 (tV (eBin dGt (eCall cLen (aCons (eVar 5) aNil)) (eC (.int 0)))) (tV (eBin dLt (eVar 3) (eC (.int 8)))))
  (sSeq (sAsg (eBin dMod (eVar 4) (eCall cLen (aCons (eVar 5) aNil))) (gN 6))
  (sSeq (sIf (tAnd2 (tV (eBin dLt (eVar 3) (eC (.int 6)))) (tV (eBin dLt (eVar 2) (eC (.int 4)))))
  (sSub (eCallF 3 (f_law_spoilt fu) (aCons (eVar 0) (aCons (eBin dIx (eVar 5) (eVar 6)) (aCons (eBin dAdd (eVar 2) (eC (.int 1))) aNil)))) (eVar 5) (eVar 6) dSet)
  (sIf (tV (eBin dLt (eVar 3) (eC (.int 7))))
  (sDrop (eMtL mPopAt (eVar 5) (aCons (eVar 6) aNil)))
  (sDrop (eMtL mIns (eVar 5) (aCons (eVar 6) (aCons (eBin dIx (eVar 5) (eCallF 2 f_law_take (aCons (eVar 0) (aCons (eCall cLen (aCons (eVar 5) aNil)) aNil)))) aNil))))))
  (sRet (eBin dIx (eLst (aCons (eVar 5) (aCons (eCall cTuple (aCons (eVar 5) aNil)) aNil))) (eCall cInt (aCons (eUn (cIsi "tuple") (eVar 1)) aNil))))))
  sPass)
  (sRet (eBin dIx (eLst (aCons (eVar 5) (aCons (eCall cTuple (aCons (eVar 5) aNil)) (aCons (eRev (eVar 5)) (aCons (eCall cTuple (aCons (eRev (eVar 5)) aNil)) (aCons (eC .non) (aCons (eC (.str "none")) (aCons (eC (.int 0)) aNil)))))))) (eBin dMod (eVar 4) (eC (.int 7)))))))
  sPass)
  (sSeq (sIf (tV (eUn (cIsi "str") (eVar 1)))
  (sSeq (sAsg (eBin dMod (eVar 4) (eBin dAdd (eCall cLen (aCons (eVar 1) aNil)) (eC (.int 1)))) (gN 6))
  (sSeq (sAsg (eBin dIx (eC (.str "abcdefghijklmnopqrstuvwxyz0123456789-")) (eCallF 2 f_law_take (aCons (eVar 0) (aCons (eC (.int 37)) aNil)))) (gN 7))
  (sSeq (sAsg (eLst (aCons (eBin dAdd (eBin dAdd (eSl dSl (eVar 1) oNone (oSome (eVar 6))) (eVar 7)) (eSl dSl (eVar 1) (oSome (eVar 6)) oNone)) (aCons (eBin dAdd (eSl dSl (eVar 1) oNone (oSome (eVar 6))) (eSl dSl (eVar 1) (oSome (eBin dAdd (eVar 6) (eC (.int 1)))) oNone)) (aCons (eBin dAdd (eBin dAdd (eSl dSl (eVar 1) oNone (oSome (eVar 6))) (eVar 7)) (eSl dSl (eVar 1) (oSome (eBin dAdd (eVar 6) (eC (.int 1)))) oNone)) aNil)))) (gN 8))
  (sRet (eBin dIx (eBin dAdd (eVar 8) (eLst (aCons (eC .non) (aCons (eC (.int 1)) aNil)))) (eBin dFdiv (eVar 3) (eC (.int 2))))))))
  sPass)
  (sSeq (sIf (tOr2 (tV (eUn (cIsi "bool") (eVar 1))) (tV (eBin dIs (eVar 1) (eC .non))))
  (sRet (eBin dIx (eLst (aCons (eC (.int 0)) (aCons (eC (.int 1)) (aCons (eC (.bl true)) (aCons (eC (.bl false)) (aCons (eC .non) (aCons (eC (.str "True")) (aCons (eTup aNil) (aCons (eLst aNil) (aCons (eTup (aCons (eC (.bl true)) aNil)) (aCons (eUn dNeg (eC (.int 1))) aNil))))))))))) (eVar 3)))
  sPass)
  (sRet (eBin dIx (eLst (aCons (eBin dAdd (eVar 1) (eC (.int 1))) (aCons (eBin dSub (eVar 1) (eC (.int 1))) (aCons (eBin dAdd (eVar 1) (eC (.int 2))) (aCons (eUn dNeg (eVar 1)) (aCons (eVar 4) (aCons (eBin dAdd (eVar 1) (eBin dPow (eC (.int 10)) (eC (.int 30)))) (aCons (eC (.bl true)) (aCons (eCall cStr (aCons (eVar 4) aNil)) (aCons (eC .non) (aCons (eTup (aCons (eVar 1) aNil)) aNil))))))))))) (eVar 3))))))))
theorem ok_law_spoilt (B : Bd P w K mg) : ∀ fu : Nat, FnOk P w K mg base (L2.CX P w) (2 + fu) (He.ga K "_law_spoilt") (fdOf K (He.ga K "_law_spoilt")) ["_law_purse_here", "_law_thing", "_law_deep"] (spF K mg 3 (f_law_spoilt fu))
  | 0 => fn_bad rfl
  | fu + 1 => by
    have ih := ok_law_spoilt B fu
    have nd := sc_law_spoilt.nd
    refine fn_okF (k := 2 + fu) (d_law_spoilt B) sc_law_spoilt (b_law_spoilt fu) 9 rfl fun cdv A outer s H E hr => ?_
    exact (fb_cons (fsS 3 nd (fe_call (ok_law_take B) (hr.mono (by omega)) (takes_of rfl rfl rfl rfl) (m_law_take B) (d_law_take B).kp (bd_law_take B) (fa_cons (fv 0) (fa_cons fe_int fa_nil))))
  (fb_cons (fsS 4 nd (fe_call (ok_law_take B) (hr.mono (by omega)) (takes_of rfl rfl rfl rfl) (m_law_take B) (d_law_take B).kp (bd_law_take B) (fa_cons (fv 0) (fa_cons fe_int fa_nil))))
  (fb_cons (fs_if (ft_val (fe_isi2 (.inr (.inr (.inr (.inr rfl)))) (.inr (.inr (.inr (.inl rfl)))) (z_isinstance B) (z_list B) (z_tuple B) (fv 1)))
  (fb_cons (fsS 5 nd (fe_callT (fc_list) (z_list B) (fa_cons (fv 1) fa_nil)))
  (fb_cons (fs_if (ft_w (fw_and (ftc (fo_gt) (fe_callB (fc_len) (z_len B) (fa_cons (fv 5) fa_nil)) fe_int) (fw_and1 (ftc (fo_lt) (fv 3) fe_int))))
  (fb_cons (fsS 6 nd (fe_bin fo_mod (fv 4) (fe_callB (fc_len) (z_len B) (fa_cons (fv 5) fa_nil))))
  (fb_cons (fs_if (ft_w (fw_and (ftc (fo_lt) (fv 3) fe_int) (fw_and1 (ftc (fo_lt) (fv 2) fe_int))))
  (fb_one (fsu (fe_call ih (hr.mono (by omega)) (takes_of rfl rfl rfl rfl) (m_law_spoilt B) (d_law_spoilt B).kp (bd_law_spoilt B) (fa_cons (fv 0) (fa_cons (fe_ix fi_ix (fv 5) (fv 6)) (fa_cons (fe_bin fo_add (fv 2) fe_int) fa_nil)))) (fv 5) (fv 6)))
  (fb_one (fs_if (ftc (fo_lt) (fv 3) fe_int)
  (fb_one (fs_expr (fe_mt fm_popAt PySem.F.slot_list_pop PySem.F.type_list_pop (fv 5) (fa_cons (fv 6) fa_nil))))
  (fb_one (fs_expr (fe_mt fm_ins PySem.F.slot_list_insert PySem.F.type_list_insert (fv 5) (fa_cons (fv 6) (fa_cons (fe_ix fi_ix (fv 5) (fe_call (ok_law_take B) (hr.mono (by omega)) (takes_of rfl rfl rfl rfl) (m_law_take B) (d_law_take B).kp (bd_law_take B) (fa_cons (fv 0) (fa_cons (fe_callB (fc_len) (z_len B) (fa_cons (fv 5) fa_nil)) fa_nil)))) fa_nil))))))))
  (fb_one (fs_ret (fe_ix fi_ix (fe_lst (fa_cons (fv 5) (fa_cons (fe_callT (fc_tuple) (z_tuple B) (fa_cons (fv 5) fa_nil)) fa_nil))) (fe_callT (fc_int) (z_int B) (fa_cons (fe_isi (.inr (.inr (.inr (.inl rfl)))) (z_isinstance B) (z_tuple B) (fv 1)) fa_nil)))))))
  fb_nil)
  (fb_one (fs_ret (fe_ix fi_ix (fe_lst (fa_cons (fv 5) (fa_cons (fe_callT (fc_tuple) (z_tuple B) (fa_cons (fv 5) fa_nil)) (fa_cons (fe_revL (fv 5)) (fa_cons (fe_callT (fc_tuple) (z_tuple B) (fa_cons (fe_revL (fv 5)) fa_nil)) (fa_cons fe_non (fa_cons fe_str (fa_cons fe_int fa_nil)))))))) (fe_bin fo_mod (fv 4) fe_int))))))
  fb_nil)
  (fb_cons (fs_if (ft_val (fe_isi (.inr (.inr (.inl rfl))) (z_isinstance B) (z_str B) (fv 1)))
  (fb_cons (fsS 6 nd (fe_bin fo_mod (fv 4) (fe_bin fo_add (fe_callB (fc_len) (z_len B) (fa_cons (fv 1) fa_nil)) fe_int)))
  (fb_cons (fsS 7 nd (fe_ix fi_ix fe_str (fe_call (ok_law_take B) (hr.mono (by omega)) (takes_of rfl rfl rfl rfl) (m_law_take B) (d_law_take B).kp (bd_law_take B) (fa_cons (fv 0) (fa_cons fe_int fa_nil)))))
  (fb_cons (fsS 8 nd (fe_lst (fa_cons (fe_bin fo_add (fe_bin fo_add (fe_slice fs_slice (fv 1) fo_none (fo_some (fv 6))) (fv 7)) (fe_slice fs_slice (fv 1) (fo_some (fv 6)) fo_none)) (fa_cons (fe_bin fo_add (fe_slice fs_slice (fv 1) fo_none (fo_some (fv 6))) (fe_slice fs_slice (fv 1) (fo_some (fe_bin fo_add (fv 6) fe_int)) fo_none)) (fa_cons (fe_bin fo_add (fe_bin fo_add (fe_slice fs_slice (fv 1) fo_none (fo_some (fv 6))) (fv 7)) (fe_slice fs_slice (fv 1) (fo_some (fe_bin fo_add (fv 6) fe_int)) fo_none)) fa_nil)))))
  (fb_one (fs_ret (fe_ix fi_ix (fe_bin fo_add (fv 8) (fe_lst (fa_cons fe_non (fa_cons fe_int fa_nil)))) (fe_bin fo_fdiv (fv 3) fe_int)))))))
  fb_nil)
  (fb_cons (fs_if (ft_w (fw_or (ft_val (fe_isi (.inr (.inl rfl)) (z_isinstance B) (z_bool B) (fv 1))) (fw_or1 (ftc (fo_is) (fv 1) fe_non))))
  (fb_one (fs_ret (fe_ix fi_ix (fe_lst (fa_cons fe_int (fa_cons fe_int (fa_cons fe_bl (fa_cons fe_bl (fa_cons fe_non (fa_cons fe_str (fa_cons (fe_tup fa_nil) (fa_cons (fe_lst fa_nil) (fa_cons (fe_tup (fa_cons fe_bl fa_nil)) (fa_cons (fe_un fu_neg fe_int) fa_nil))))))))))) (fv 3))))
  fb_nil)
  (fb_one (fs_ret (fe_ix fi_ix (fe_lst (fa_cons (fe_bin fo_add (fv 1) fe_int) (fa_cons (fe_bin fo_sub (fv 1) fe_int) (fa_cons (fe_bin fo_add (fv 1) fe_int) (fa_cons (fe_un fu_neg (fv 1)) (fa_cons (fv 4) (fa_cons (fe_bin fo_add (fv 1) (fe_bin fo_pow fe_int fe_int)) (fa_cons fe_bl (fa_cons (fe_callT (fc_str) (z_str B) (fa_cons (fv 4) fa_nil)) (fa_cons fe_non (fa_cons (fe_tup (fa_cons (fv 1) fa_nil)) fa_nil))))))))))) (fv 3)))))))))
theorem sc_more_due : FnScope ["number"] ["number"] (defScope st_more_due) := ⟨rfl, rfl, rfl, by decide +kernel, rfl, by decide +kernel, by decide +kernel⟩
noncomputable def b_more_due : SE := (sSeq (sIf (tV (eBin dEq (eVar 0) (eC (.int (-2)))))
  (sRet (eC (.int 1)))
  sPass)
  (sSeq (sIf (tV (eBin dEq (eVar 0) (eC (.int (-1)))))
  (sRet (eC (.int 0)))
  sPass)
  (sRet (eUn dNeg (eC (.int 1))))))
noncomputable def f_more_due : Fn := runF 1 1 b_more_due
theorem ok_more_due (B : Bd P w K mg) : FnOk P w K mg base (L2.CX P w) 1 (He.ga K "more_due") (fdOf K (He.ga K "more_due")) ["number"] (spF K mg 1 f_more_due) := by
  have nd := sc_more_due.nd
  refine fn_okF (d_more_due B) sc_more_due b_more_due 1 rfl fun cdv A outer s H E hr => ?_
  exact (fb_cons (fs_if (ftc (fo_eq hr.units) (fv 0) (fcI (m_GIFT B)))
  (fb_one (fs_ret fe_int))
  fb_nil)
  (fb_cons (fs_if (ftc (fo_eq hr.units) (fv 0) (fcI (m_TURN B)))
  (fb_one (fs_ret fe_int))
  fb_nil)
  (fb_one (fs_ret (fe_un fu_neg fe_int)))))
theorem sc_is_read : FnScope ["numbers", "due", "number"] ["numbers"] (defScope st_is_read) := ⟨rfl, rfl, rfl, by decide +kernel, rfl, by decide +kernel, by decide +kernel⟩
noncomputable def b_is_read : SE := (sSeq (sAsg (eC (.int 1)) (gN 1))
  (sSeq (sFor (iSeq (eVar 0)) (gN 2)
  (sSeq (sIf (tV (eBin dEq (eVar 1) (eC (.int 0))))
  (sRet (eC (.bl false)))
  sPass)
  (sAug 1 dIadd (eCallF 1 f_more_due (aCons (eVar 2) aNil)))))
  (sRet (eBin dEq (eVar 1) (eC (.int 0))))))
noncomputable def f_is_read : Fn := runF 1 3 b_is_read
theorem ok_is_read (B : Bd P w K mg) : FnOk P w K mg base (L2.CX P w) 2 (He.ga K "is_read") (fdOf K (He.ga K "is_read")) ["numbers"] (spF K mg 1 f_is_read) := by
  have nd := sc_is_read.nd
  refine fn_okF (d_is_read B) sc_is_read b_is_read 3 rfl fun cdv A outer s H E hr => ?_
  exact (fb_cons (fsS 1 nd fe_int)
  (fb_cons (fs_for (passes_of rfl) rfl (fi_seq (fv 0)) (fgN 2 nd)
  (fb_cons (fs_if (ftc (fo_eq hr.units) (fv 1) fe_int)
  (fb_one (fs_ret fe_bl))
  fb_nil)
  (fb_one (fsA 1 nd fo_iadd (fe_call (ok_more_due B) (hr.mono (by omega)) (takes_of rfl rfl rfl rfl) (m_more_due B) (d_more_due B).kp (bd_more_due B) (fa_cons (fv 2) fa_nil))))))
  (fb_one (fs_ret (fcp (fo_eq hr.units) (fv 1) fe_int)))))
theorem sc_is_term : FnScope ["thing", "number"] ["thing"] (defScope st_is_term) := ⟨rfl, rfl, rfl, by decide +kernel, rfl, by decide +kernel, by decide +kernel⟩
noncomputable def b_is_term : SE := (sSeq (sIf (tOr2 (tNot1 (tV (eUn (cIsi "tuple") (eVar 0)))) (tOr2 (tV (eBin dEq (eCall cLen (aCons (eVar 0) aNil)) (eC (.int 0)))) (tV (eBin dGt (eCall cLen (aCons (eVar 0) aNil)) (eC (.int (20000)))))))
  (sRet (eC (.bl false)))
  sPass)
  (sSeq (sFor (iSeq (eVar 0)) (gN 1)
  (sIf (tOr2 (tNot1 (tV (eCallF 1 f_is_whole (aCons (eVar 1) aNil)))) (tOr2 (tV (eBin dLt (eVar 1) (eC (.int (-2))))) (tV (eBin dGt (eVar 1) (eC (.int (9999)))))))
  (sRet (eC (.bl false)))
  sPass))
  (sRet (eCallF 1 f_is_read (aCons (eVar 0) aNil)))))
noncomputable def f_is_term : Fn := runF 1 2 b_is_term
theorem ok_is_term (B : Bd P w K mg) : FnOk P w K mg base (L2.CX P w) 3 (He.ga K "is_term") (fdOf K (He.ga K "is_term")) ["thing"] (spF K mg 1 f_is_term) := by
  have nd := sc_is_term.nd
  refine fn_okF (d_is_term B) sc_is_term b_is_term 2 rfl fun cdv A outer s H E hr => ?_
  exact (fb_cons (fs_if (ft_w (fw_or (ft_not (ft_val (fe_isi (.inr (.inr (.inr (.inl rfl)))) (z_isinstance B) (z_tuple B) (fv 0)))) (fw_or (ftc (fo_eq hr.units) (fe_callB (fc_len) (z_len B) (fa_cons (fv 0) fa_nil)) fe_int) (fw_or1 (ftc (fo_gt) (fe_callB (fc_len) (z_len B) (fa_cons (fv 0) fa_nil)) (fcI (m_MOST B)))))))
  (fb_one (fs_ret fe_bl))
  fb_nil)
  (fb_cons (fs_for (passes_of rfl) rfl (fi_seq (fv 0)) (fgN 1 nd)
  (fb_one (fs_if (ft_w (fw_or (ft_not (ft_val (fe_call (ok_is_whole B) (hr.mono (by omega)) (takes_of rfl rfl rfl rfl) (m_is_whole B) (d_is_whole B).kp (bd_is_whole B) (fa_cons (fv 1) fa_nil)))) (fw_or (ftc (fo_lt) (fv 1) (fcI (m_GIFT B))) (fw_or1 (ftc (fo_gt) (fv 1) (fcI (m_FAR B)))))))
  (fb_one (fs_ret fe_bl))
  fb_nil)))
  (fb_one (fs_ret (fe_call (ok_is_read B) (hr.mono (by omega)) (takes_of rfl rfl rfl rfl) (m_is_read B) (d_is_read B).kp (bd_is_read B) (fa_cons (fv 0) fa_nil))))))
theorem sc_look_term : FnScope ["thing"] ["thing"] (defScope st_look_term) := ⟨rfl, rfl, rfl, by decide +kernel, rfl, by decide +kernel, by decide +kernel⟩
noncomputable def b_look_term : SE := (sIf (tNot1 (tV (eCallF 1 f_is_term (aCons (eVar 0) aNil))))
  (sRaise "NoTerm")
  sPass)
noncomputable def f_look_term : Fn := runF 1 1 b_look_term
theorem ok_look_term (B : Bd P w K mg) : FnOk P w K mg base (L2.CX P w) 4 (He.ga K "look_term") (fdOf K (He.ga K "look_term")) ["thing"] (spF K mg 1 f_look_term) := by
  have nd := sc_look_term.nd
  refine fn_okF (d_look_term B) sc_look_term b_look_term 1 rfl fun cdv A outer s H E hr => ?_
  exact (fb_one (fs_if (ft_not (ft_val (fe_call (ok_is_term B) (hr.mono (by omega)) (takes_of rfl rfl rfl rfl) (m_is_term B) (d_is_term B).kp (bd_is_term B) (fa_cons (fv 0) fa_nil))))
  (fb_one (fs_raise0 rfl (takes_of rfl rfl rfl rfl) (x_NoTerm B) (m_NoTerm B)))
  fb_nil))
theorem sc_look_around : FnScope ["thing"] ["thing"] (defScope st_look_around) := ⟨rfl, rfl, rfl, by decide +kernel, rfl, by decide +kernel, by decide +kernel⟩
noncomputable def b_look_around : SE := (sIf (tNot1 (tV (eCallF 1 f_is_surrounding (aCons (eVar 0) aNil))))
  (sRaise "NoHole")
  sPass)
noncomputable def f_look_around : Fn := runF 1 1 b_look_around
theorem ok_look_around (B : Bd P w K mg) : FnOk P w K mg base (L2.CX P w) 3 (He.ga K "look_around") (fdOf K (He.ga K "look_around")) ["thing"] (spF K mg 1 f_look_around) := by
  have nd := sc_look_around.nd
  refine fn_okF (d_look_around B) sc_look_around b_look_around 1 rfl fun cdv A outer s H E hr => ?_
  exact (fb_one (fs_if (ft_not (ft_val (fe_call (ok_is_surrounding B) (hr.mono (by omega)) (takes_of rfl rfl rfl rfl) (m_is_surrounding B) (d_is_surrounding B).kp (bd_is_surrounding B) (fa_cons (fv 0) fa_nil))))
  (fb_one (fs_raise0 rfl (takes_of rfl rfl rfl rfl) (x_NoHole B) (m_NoHole B)))
  fb_nil))
theorem sc_put_in_hole : FnScope ["outer", "term", "place"] ["outer", "term"] (defScope st_put_in_hole) := ⟨rfl, rfl, rfl, by decide +kernel, rfl, by decide +kernel, by decide +kernel⟩
noncomputable def b_put_in_hole : SE := (sSeq (sIf (tV (eBin dGt (eBin dAdd (eBin dSub (eCall cLen (aCons (eVar 0) aNil)) (eC (.int 1))) (eCall cLen (aCons (eVar 1) aNil))) (eC (.int (20000)))))
  (sRaise "TooMuch")
  sPass)
  (sSeq (sAsg (eMtS mIndex mIndexT (eVar 0) (aCons (eC (.int (-3))) aNil)) (gN 2))
  (sRet (eBin dAdd (eBin dAdd (eSl dSl (eVar 0) oNone (oSome (eVar 2))) (eVar 1)) (eSl dSl (eVar 0) (oSome (eBin dAdd (eVar 2) (eC (.int 1)))) oNone)))))
noncomputable def f_put_in_hole : Fn := runF 2 3 b_put_in_hole
theorem ok_put_in_hole (B : Bd P w K mg) : FnOk P w K mg base (L2.CX P w) 1 (He.ga K "put_in_hole") (fdOf K (He.ga K "put_in_hole")) ["outer", "term"] (spF K mg 2 f_put_in_hole) := by
  have nd := sc_put_in_hole.nd
  refine fn_okF (d_put_in_hole B) sc_put_in_hole b_put_in_hole 3 rfl fun cdv A outer s H E hr => ?_
  exact (fb_cons (fs_if (ftc (fo_gt) (fe_bin fo_add (fe_bin fo_sub (fe_callB (fc_len) (z_len B) (fa_cons (fv 0) fa_nil)) fe_int) (fe_callB (fc_len) (z_len B) (fa_cons (fv 1) fa_nil))) (fcI (m_MOST B)))
  (fb_one (fs_raise0 rfl (takes_of rfl rfl rfl rfl) (x_TooMuch B) (m_TooMuch B)))
  fb_nil)
  (fb_cons (fsS 2 nd (fe_mtS fm_index fm_indexT PySem.F.slot_list_index PySem.F.slot_tuple_index PySem.F.type_list_index PySem.F.type_tuple_index (fv 0) (fa_cons (fcI (m_HOLE B)) fa_nil)))
  (fb_one (fs_ret (fe_bin fo_add (fe_bin fo_add (fe_slice fs_slice (fv 0) fo_none (fo_some (fv 2))) (fv 1)) (fe_slice fs_slice (fv 0) (fo_some (fe_bin fo_add (fv 2) fe_int)) fo_none))))))
theorem sc_filled : FnScope ["outer", "term"] ["outer", "term"] (defScope st_filled) := ⟨rfl, rfl, rfl, by decide +kernel, rfl, by decide +kernel, by decide +kernel⟩
noncomputable def b_filled : SE := (sSeq (sDrop (eCallF 1 f_look_around (aCons (eVar 0) aNil)))
  (sSeq (sDrop (eCallF 1 f_look_term (aCons (eVar 1) aNil)))
  (sRet (eCallF 2 f_put_in_hole (aCons (eVar 0) (aCons (eVar 1) aNil))))))
noncomputable def f_filled : Fn := runF 2 2 b_filled
theorem ok_filled (B : Bd P w K mg) : FnOk P w K mg base (L2.CX P w) 5 (He.ga K "filled") (fdOf K (He.ga K "filled")) ["outer", "term"] (spF K mg 2 f_filled) := by
  have nd := sc_filled.nd
  refine fn_okF (d_filled B) sc_filled b_filled 2 rfl fun cdv A outer s H E hr => ?_
  exact (fb_cons (fs_expr (fe_call (ok_look_around B) (hr.mono (by omega)) (takes_of rfl rfl rfl rfl) (m_look_around B) (d_look_around B).kp (bd_look_around B) (fa_cons (fv 0) fa_nil)))
  (fb_cons (fs_expr (fe_call (ok_look_term B) (hr.mono (by omega)) (takes_of rfl rfl rfl rfl) (m_look_term B) (d_look_term B).kp (bd_look_term B) (fa_cons (fv 1) fa_nil)))
  (fb_one (fs_ret (fe_call (ok_put_in_hole B) (hr.mono (by omega)) (takes_of rfl rfl rfl rfl) (m_put_in_hole B) (d_put_in_hole B).kp (bd_put_in_hole B) (fa_cons (fv 0) (fa_cons (fv 1) fa_nil)))))))
theorem sc_law_kind : FnScope ["_law_e", "_law_names", "_law_some"] ["_law_e"] (defScope st_law_kind) := ⟨rfl, rfl, rfl, by decide +kernel, rfl, by decide +kernel, by decide +kernel⟩
def b_law_kind (ex : Addr) (tab : Str → Bool) : SE := (sSeq (sAsg (eLst (aCons (eC (.str "Alike")) (aCons (eC (.str "InOrder")) (aCons (eC (.str "NoForms")) (aCons (eC (.str "NoHole")) (aCons (eC (.str "NoLast")) (aCons (eC (.str "NoLink")) (aCons (eC (.str "NoName")) (aCons (eC (.str "NoOpening")) (aCons (eC (.str "NoPlace")) (aCons (eC (.str "NoRow")) aNil))))))))))) (gN 1))
  (sSeq (sAsg (eBin dAdd (eVar 1) (eLst (aCons (eC (.str "NoSize")) (aCons (eC (.str "NoStep")) (aCons (eC (.str "NoTerm")) (aCons (eC (.str "NoText")) (aCons (eC (.str "NotAlike")) (aCons (eC (.str "NoTree")) (aCons (eC (.str "TooMuch")) aNil))))))))) (gN 1))
  (sSeq (sAsg (eLst (aCons (eIsE ex (tab "Alike") (eVar 0)) (aCons (eIsE ex (tab "InOrder") (eVar 0)) (aCons (eIsE ex (tab "NoForms") (eVar 0)) (aCons (eIsE ex (tab "NoHole") (eVar 0)) aNil))))) (gN 2))
  (sSeq (sAsg (eBin dAdd (eVar 2) (eLst (aCons (eIsE ex (tab "NoLast") (eVar 0)) (aCons (eIsE ex (tab "NoLink") (eVar 0)) (aCons (eIsE ex (tab "NoName") (eVar 0)) (aCons (eIsE ex (tab "NoOpening") (eVar 0)) aNil)))))) (gN 2))
  (sSeq (sAsg (eBin dAdd (eVar 2) (eLst (aCons (eIsE ex (tab "NoPlace") (eVar 0)) (aCons (eIsE ex (tab "NoRow") (eVar 0)) (aCons (eIsE ex (tab "NoSize") (eVar 0)) (aCons (eIsE ex (tab "NoStep") (eVar 0)) aNil)))))) (gN 2))
  (sSeq (sAsg (eBin dAdd (eVar 2) (eLst (aCons (eIsE ex (tab "NoTerm") (eVar 0)) (aCons (eIsE ex (tab "NoText") (eVar 0)) (aCons (eIsE ex (tab "NotAlike") (eVar 0)) (aCons (eIsE ex (tab "NoTree") (eVar 0)) aNil)))))) (gN 2))
  (sSeq (sAsg (eBin dAdd (eVar 2) (eLst (aCons (eIsE ex (tab "TooMuch") (eVar 0)) aNil))) (gN 2))
  (sSeq (sIf (tOr2 (tV (eBin dNe (eMtS mCount mCountT (eVar 2) (aCons (eC (.bl true)) aNil)) (eC (.int 1)))) (tOr2 (tNot1 (tV (eIsE ex (tab "Wrong") (eVar 0)))) (tNot1 (tV (eIsE ex (tab "ValueError") (eVar 0))))))
  (sRet (eC (.str "!")))
  sPass)
  (sRet (eBin dAdd (eC (.str "!")) (eBin dIx (eVar 1) (eMtS mIndex mIndexT (eVar 2) (aCons (eC (.bl true)) aNil)))))))))))))
theorem kd_law_kind (B : Bd P w K mg) {C z : Str} (hC : C ∈ raised) (hz : ∀ a, ∃ st, b_law_kind a (tabK C) (startD 3 [.glo a]) [] = .ret (.str z) st) : FnKind P w K mg base 1 (He.ga K "_law_kind") (fdOf K (He.ga K "_law_kind")) "_law_e" (He.ga K C) z := by
  have nd := sc_law_kind.nd
  refine kind_ok (d_law_kind B) sc_law_kind (fun a => b_law_kind a (tabK C)) (fun cdv A outer s H E p zc zf hr => ?_) hz
  have hx := ex_law_kind B hC
  have hk := kit_law_kind B hC
  exact (fb_cons (fsS 1 nd (fe_lst (fa_cons fe_str (fa_cons fe_str (fa_cons fe_str (fa_cons fe_str (fa_cons fe_str (fa_cons fe_str (fa_cons fe_str (fa_cons fe_str (fa_cons fe_str (fa_cons fe_str fa_nil))))))))))))
  (fb_cons (fsS 1 nd (fe_bin fo_add (fv 1) (fe_lst (fa_cons fe_str (fa_cons fe_str (fa_cons fe_str (fa_cons fe_str (fa_cons fe_str (fa_cons fe_str (fa_cons fe_str fa_nil))))))))))
  (fb_cons (fsS 2 nd (fe_lst (fa_cons (fe_isiE (pe_glob (v := .ref _) rfl (m_Alike B) rfl) (fun _ h => h) hx (List.mem_singleton.mpr rfl) zc zf (hk "Alike" (by decide)) (z_isinstance B) (fv 0)) (fa_cons (fe_isiE (pe_glob (v := .ref _) rfl (m_InOrder B) rfl) (fun _ h => h) hx (List.mem_singleton.mpr rfl) zc zf (hk "InOrder" (by decide)) (z_isinstance B) (fv 0)) (fa_cons (fe_isiE (pe_glob (v := .ref _) rfl (m_NoForms B) rfl) (fun _ h => h) hx (List.mem_singleton.mpr rfl) zc zf (hk "NoForms" (by decide)) (z_isinstance B) (fv 0)) (fa_cons (fe_isiE (pe_glob (v := .ref _) rfl (m_NoHole B) rfl) (fun _ h => h) hx (List.mem_singleton.mpr rfl) zc zf (hk "NoHole" (by decide)) (z_isinstance B) (fv 0)) fa_nil))))))
  (fb_cons (fsS 2 nd (fe_bin fo_add (fv 2) (fe_lst (fa_cons (fe_isiE (pe_glob (v := .ref _) rfl (m_NoLast B) rfl) (fun _ h => h) hx (List.mem_singleton.mpr rfl) zc zf (hk "NoLast" (by decide)) (z_isinstance B) (fv 0)) (fa_cons (fe_isiE (pe_glob (v := .ref _) rfl (m_NoLink B) rfl) (fun _ h => h) hx (List.mem_singleton.mpr rfl) zc zf (hk "NoLink" (by decide)) (z_isinstance B) (fv 0)) (fa_cons (fe_isiE (pe_glob (v := .ref _) rfl (m_NoName B) rfl) (fun _ h => h) hx (List.mem_singleton.mpr rfl) zc zf (hk "NoName" (by decide)) (z_isinstance B) (fv 0)) (fa_cons (fe_isiE (pe_glob (v := .ref _) rfl (m_NoOpening B) rfl) (fun _ h => h) hx (List.mem_singleton.mpr rfl) zc zf (hk "NoOpening" (by decide)) (z_isinstance B) (fv 0)) fa_nil)))))))
  (fb_cons (fsS 2 nd (fe_bin fo_add (fv 2) (fe_lst (fa_cons (fe_isiE (pe_glob (v := .ref _) rfl (m_NoPlace B) rfl) (fun _ h => h) hx (List.mem_singleton.mpr rfl) zc zf (hk "NoPlace" (by decide)) (z_isinstance B) (fv 0)) (fa_cons (fe_isiE (pe_glob (v := .ref _) rfl (m_NoRow B) rfl) (fun _ h => h) hx (List.mem_singleton.mpr rfl) zc zf (hk "NoRow" (by decide)) (z_isinstance B) (fv 0)) (fa_cons (fe_isiE (pe_glob (v := .ref _) rfl (m_NoSize B) rfl) (fun _ h => h) hx (List.mem_singleton.mpr rfl) zc zf (hk "NoSize" (by decide)) (z_isinstance B) (fv 0)) (fa_cons (fe_isiE (pe_glob (v := .ref _) rfl (m_NoStep B) rfl) (fun _ h => h) hx (List.mem_singleton.mpr rfl) zc zf (hk "NoStep" (by decide)) (z_isinstance B) (fv 0)) fa_nil)))))))
  (fb_cons (fsS 2 nd (fe_bin fo_add (fv 2) (fe_lst (fa_cons (fe_isiE (pe_glob (v := .ref _) rfl (m_NoTerm B) rfl) (fun _ h => h) hx (List.mem_singleton.mpr rfl) zc zf (hk "NoTerm" (by decide)) (z_isinstance B) (fv 0)) (fa_cons (fe_isiE (pe_glob (v := .ref _) rfl (m_NoText B) rfl) (fun _ h => h) hx (List.mem_singleton.mpr rfl) zc zf (hk "NoText" (by decide)) (z_isinstance B) (fv 0)) (fa_cons (fe_isiE (pe_glob (v := .ref _) rfl (m_NotAlike B) rfl) (fun _ h => h) hx (List.mem_singleton.mpr rfl) zc zf (hk "NotAlike" (by decide)) (z_isinstance B) (fv 0)) (fa_cons (fe_isiE (pe_glob (v := .ref _) rfl (m_NoTree B) rfl) (fun _ h => h) hx (List.mem_singleton.mpr rfl) zc zf (hk "NoTree" (by decide)) (z_isinstance B) (fv 0)) fa_nil)))))))
  (fb_cons (fsS 2 nd (fe_bin fo_add (fv 2) (fe_lst (fa_cons (fe_isiE (pe_glob (v := .ref _) rfl (m_TooMuch B) rfl) (fun _ h => h) hx (List.mem_singleton.mpr rfl) zc zf (hk "TooMuch" (by decide)) (z_isinstance B) (fv 0)) fa_nil))))
  (fb_cons (fs_if (ft_w (fw_or (ftc (fo_ne (Fx.hrH hr)) (fe_mtS fm_count fm_countT PySem.F.slot_list_count PySem.F.slot_tuple_count PySem.F.type_list_count PySem.F.type_tuple_count (fv 2) (fa_cons fe_bl fa_nil)) fe_int) (fw_or (ft_not (ft_val (fe_isiE (pe_glob (v := .ref _) rfl (m_Wrong B) rfl) (fun _ h => h) hx (List.mem_singleton.mpr rfl) zc zf (hk "Wrong" (by decide)) (z_isinstance B) (fv 0)))) (fw_or1 (ft_not (ft_val (fe_isiE (pe_tyname (z_ValueError B) rfl (by decide +kernel)) (fun _ h => h) hx (List.mem_singleton.mpr rfl) zc zf (hk "ValueError" (by decide)) (z_isinstance B) (fv 0))))))))
  (fb_one (fs_ret fe_str))
  fb_nil)
  (fb_one (fs_ret (fe_bin fo_add fe_str (fe_ix fi_ix (fv 1) (fe_mtS fm_index fm_indexT PySem.F.slot_list_index PySem.F.slot_tuple_index PySem.F.type_list_index PySem.F.type_tuple_index (fv 2) (fa_cons fe_bl fa_nil))))))))))))))
theorem kz_law_kind : ∀ C, C ∈ raised → ∀ a, ∃ st, b_law_kind a (tabK C) (startD 3 [.glo a]) [] = .ret (.str ("!" ++ C)) st := by
  intro C hC a
  simp only [raised, List.mem_cons, List.not_mem_nil, or_false] at hC
  rcases hC with rfl | rfl | rfl <;> exact QS.kind (n := 2) (by unfold b_law_kind; repeat' first | exact QE.is | apply QS.seq | apply QS.iff | apply QS.asg | exact QS.pass | apply QS.ret | apply QT.or | apply QT.not | apply QT.v | apply QE.lst | exact QA.nil | apply QA.cons | apply QE.bin | exact QE.same) (by rfl)
def kf (e : Exn) : Option Str := if e.2.isNone = true ∧ e.1 ∈ raised then some ("!" ++ e.1) else none
theorem mr (B : Bd P w K mg) {n : Str} (h : n ∈ raised) : mg n = some (.ref (He.ga K n)) := by
  simp only [raised, List.mem_cons, List.not_mem_nil, or_false] at h
  rcases h with rfl | rfl | rfl
  · exact m_NoHole B
  · exact m_NoTerm B
  · exact m_TooMuch B
theorem kf_ok (B : Bd P w K mg) : ∀ e z, kf e = some z → e.2 = none ∧ ∀ C, mg e.1 = some (.ref C) → PySem.W.exmOne K (.ref C) (.ref (He.ga K "Wrong")) = some true ∧ FnKind P w K mg base 1 (He.ga K "_law_kind") (fdOf K (He.ga K "_law_kind")) "_law_e" C z := by
  intro e z h
  unfold kf at h
  split at h
  · rename_i c
    cases h
    refine ⟨Option.isNone_iff_eq_none.mp c.1, fun C hC => ?_⟩
    rw [mr B c.2] at hC
    cases hC
    exact ⟨exm_w B c.2, kd_law_kind B c.2 (kz_law_kind _ c.2)⟩
  · cases h
theorem bdk (B : Bd P w K mg) (s : Shared) (u : Value) (X : K.In s.heap) : BindsTo s (fdOf K (He.ga K "_law_kind")) ⟨[u], []⟩ [("_law_e", u)] := bd_law_kind B s [u] X rfl
theorem sc_law_say : FnScope ["_law_outer", "_law_term_here", "_law_told", "_law_e"] ["_law_outer", "_law_term_here"] (defScope st_law_say) := ⟨rfl, rfl, rfl, by decide +kernel, rfl, by decide +kernel, by decide +kernel⟩
noncomputable def b_law_say : SE := (sSeq (sTryK kf
  (sAsg (eCallF 2 f_filled (aCons (eVar 0) (aCons (eVar 1) aNil))) (gN 2)))
  (sRet (eVar 2)))
noncomputable def f_law_say : Fn := runF 2 4 b_law_say
theorem ok_law_say (B : Bd P w K mg) : FnOk P w K mg base (L2.CX P w) 6 (He.ga K "_law_say") (fdOf K (He.ga K "_law_say")) ["_law_outer", "_law_term_here"] (spF K mg 2 f_law_say) := by
  have nd := sc_law_say.nd
  refine fn_okF (d_law_say B) sc_law_say b_law_say 4 rfl fun cdv A outer s H E hr => ?_
  exact (fb_cons (fs_tryK (i := 3) (takes_of rfl rfl rfl rfl) rfl rfl nd rfl rfl rfl ⟨rfl, by decide, .inl (m_Wrong B)⟩ (L2H.roomH_of (hr.mono (by omega))) (m_law_kind B) rfl (d_law_kind B).kp (bdk B) (kf_ok B)
  (fun W2 j => (fb_one (fsS 2 nd (fe_call (ok_filled B) (hr.mono (by omega)) j.tk (m_filled B) (d_filled B).kp (bd_filled B) (fa_cons (fv 0) (fa_cons (fv 1) fa_nil)))))))
  (fb_one (fs_ret (fv 2))))
theorem sc_law_due : FnScope ["_law_outer", "_law_term_here", "_law_place"] ["_law_outer", "_law_term_here"] (defScope st_law_due) := ⟨rfl, rfl, rfl, by decide +kernel, rfl, by decide +kernel, by decide +kernel⟩
noncomputable def b_law_due : SE := (sSeq (sIf (tNot1 (tV (eCallF 1 f_law_is_around (aCons (eVar 0) aNil))))
  (sRet (eC (.str "!NoHole")))
  sPass)
  (sSeq (sIf (tNot1 (tV (eCallF 1 f_law_is_term (aCons (eVar 1) aNil))))
  (sRet (eC (.str "!NoTerm")))
  sPass)
  (sSeq (sIf (tV (eBin dGt (eBin dAdd (eBin dSub (eCall cLen (aCons (eVar 0) aNil)) (eC (.int 1))) (eCall cLen (aCons (eVar 1) aNil))) (eC (.int 20000))))
  (sRet (eC (.str "!TooMuch")))
  sPass)
  (sSeq (sAsg (eMtS mIndex mIndexT (eVar 0) (aCons (eUn dNeg (eC (.int 3))) aNil)) (gN 2))
  (sRet (eBin dAdd (eBin dAdd (eSl dSl (eVar 0) oNone (oSome (eVar 2))) (eVar 1)) (eSl dSl (eVar 0) (oSome (eBin dAdd (eVar 2) (eC (.int 1)))) oNone)))))))
noncomputable def f_law_due : Fn := runF 2 3 b_law_due
theorem ok_law_due (B : Bd P w K mg) : FnOk P w K mg base (L2.CX P w) 4 (He.ga K "_law_due") (fdOf K (He.ga K "_law_due")) ["_law_outer", "_law_term_here"] (spF K mg 2 f_law_due) := by
  have nd := sc_law_due.nd
  refine fn_okF (d_law_due B) sc_law_due b_law_due 3 rfl fun cdv A outer s H E hr => ?_
  exact (fb_cons (fs_if (ft_not (ft_val (fe_call (ok_law_is_around B) (hr.mono (by omega)) (takes_of rfl rfl rfl rfl) (m_law_is_around B) (d_law_is_around B).kp (bd_law_is_around B) (fa_cons (fv 0) fa_nil))))
  (fb_one (fs_ret fe_str))
  fb_nil)
  (fb_cons (fs_if (ft_not (ft_val (fe_call (ok_law_is_term B) (hr.mono (by omega)) (takes_of rfl rfl rfl rfl) (m_law_is_term B) (d_law_is_term B).kp (bd_law_is_term B) (fa_cons (fv 1) fa_nil))))
  (fb_one (fs_ret fe_str))
  fb_nil)
  (fb_cons (fs_if (ftc (fo_gt) (fe_bin fo_add (fe_bin fo_sub (fe_callB (fc_len) (z_len B) (fa_cons (fv 0) fa_nil)) fe_int) (fe_callB (fc_len) (z_len B) (fa_cons (fv 1) fa_nil))) fe_int)
  (fb_one (fs_ret fe_str))
  fb_nil)
  (fb_cons (fsS 2 nd (fe_mtS fm_index fm_indexT PySem.F.slot_list_index PySem.F.slot_tuple_index PySem.F.type_list_index PySem.F.type_tuple_index (fv 0) (fa_cons (fe_un fu_neg fe_int) fa_nil)))
  (fb_one (fs_ret (fe_bin fo_add (fe_bin fo_add (fe_slice fs_slice (fv 0) fo_none (fo_some (fv 2))) (fv 1)) (fe_slice fs_slice (fv 0) (fo_some (fe_bin fo_add (fv 2) fe_int)) fo_none))))))))
theorem sc_law : FnScope ["_law_script", "_law_k", "_law_purse_here", "_law_changes", "_law_which", "_law_outer", "_law_term_here", "_law_turn", "_law_told", "_law_due_here"] ["_law_script"] (defScope st_law) := ⟨rfl, rfl, rfl, by decide +kernel, rfl, by decide +kernel, by decide +kernel⟩
noncomputable def b_law : SE := (sSeq (sFor (iRng1' (aCons (eCall cMax (aCons (eC (.int 4)) (aCons (eCall cMin (aCons (eCall cLen (aCons (eVar 0) aNil)) (aCons (eC (.int 20)) aNil))) aNil))) aNil)) (gN 1)
  (sSeq (sAsg (eCallF 2 f_law_purse (aCons (eVar 0) (aCons (eVar 1) aNil))) (gN 2))
  (sSeq (sAsg (eBin dIx (eLst (aCons (eC (.int 0)) (aCons (eC (.int 1)) (aCons (eC (.int 1)) (aCons (eC (.int 2)) aNil))))) (eCallF 2 f_law_take (aCons (eVar 2) (aCons (eC (.int 4)) aNil)))) (gN 3))
  (sSeq (sAsg (eCallF 2 f_law_take (aCons (eVar 2) (aCons (eC (.int 4)) aNil))) (gN 4))
  (sSeq (sAsg (eCallF 2 f_law_around (aCons (eVar 2) (aCons (eBin dAdd (eC (.int 1)) (eCallF 2 f_law_take (aCons (eVar 2) (aCons (eC (.int 60)) aNil)))) aNil))) (gN 5))
  (sSeq (sAsg (eCallF 3 f_law_term (aCons (eVar 2) (aCons (eBin dAdd (eC (.int 1)) (eCallF 2 f_law_take (aCons (eVar 2) (aCons (eC (.int 60)) aNil)))) (aCons (eC (.int 3)) aNil)))) (gN 6))
  (sSeq (sIf (tAnd2 (tV (eBin dEq (eCallF 2 f_law_take (aCons (eVar 2) (aCons (eC (.int 8)) aNil))) (eC (.int 5)))) (tV (eBin dEq (eVar 1) (eC (.int 0)))))
  (sAsg (eBin dAdd (eBin dMul (eTup (aCons (eUn dNeg (eC (.int 1))) aNil)) (eBin dSub (eC (.int 19999)) (eCallF 2 f_law_take (aCons (eVar 2) (aCons (eC (.int 60)) aNil))))) (eTup (aCons (eCallF 2 f_law_take (aCons (eVar 2) (aCons (eC (.int 9)) aNil))) aNil))) (gN 6))
  sPass)
  (sSeq (sFor (iRng1' (aCons (eVar 3) aNil)) (gN 7)
  (sIf (tV (eBin dEq (eVar 4) (eC (.int 0))))
  (sAsg (eCallF 3 (f_law_spoilt 8) (aCons (eVar 2) (aCons (eVar 6) (aCons (eC (.int 0)) aNil)))) (gN 6))
  (sAsg (eCallF 3 (f_law_spoilt 8) (aCons (eVar 2) (aCons (eVar 5) (aCons (eC (.int 0)) aNil)))) (gN 5))))
  (sSeq (sAsg (eCallF 1 f_is_surrounding (aCons (eVar 5) aNil)) (gN 8))
  (sSeq (sIf (tOr2 (tNot1 (tV (eUn (cIsi "bool") (eVar 8)))) (tV (eBin dNe (eVar 8) (eCallF 1 f_law_is_around (aCons (eVar 5) aNil)))))
  (sRet (eC (.bl false)))
  sPass)
  (sSeq (sAsg (eCallF 2 f_law_due (aCons (eVar 5) (aCons (eVar 6) aNil))) (gN 9))
  (sSeq (sAsg (eCallF 2 f_law_say (aCons (eVar 5) (aCons (eVar 6) aNil))) (gN 8))
  (sIf (tOr2 (tV (eBin dNe (eVar 8) (eVar 9))) (tAnd2 (tV (eUn (cIsi "tuple") (eVar 9))) (tNot1 (tV (eUn (cIsi "tuple") (eVar 8))))))
  (sRet (eC (.bl false)))
  sPass)))))))))))))
  (sRet (eC (.bl true))))
noncomputable def f_law : Fn := runF 1 10 b_law
theorem ok_law (B : Bd P w K mg) : FnOk P w K mg base (L2.CX P w) 11 (He.ga K "law") (fdOf K (He.ga K "law")) ["_law_script"] (spF K mg 1 f_law) := by
  have nd := sc_law.nd
  refine fn_okF (d_law B) sc_law b_law 10 rfl fun cdv A outer s H E hr => ?_
  exact (fb_cons (fs_for (passes_of rfl) rfl (fi_range1 rfl (z_range B) (fa_cons (fe_callB (fc_max rfl hr.units) (z_max B) (fa_cons fe_int (fa_cons (fe_callB (fc_min rfl hr.units) (z_min B) (fa_cons (fe_callB (fc_len) (z_len B) (fa_cons (fv 0) fa_nil)) (fa_cons fe_int fa_nil))) fa_nil))) fa_nil)) (fgN 1 nd)
  (fb_cons (fsS 2 nd (fe_call (ok_law_purse B) (hr.mono (by omega)) (takes_of rfl rfl rfl rfl) (m_law_purse B) (d_law_purse B).kp (bd_law_purse B) (fa_cons (fv 0) (fa_cons (fv 1) fa_nil))))
  (fb_cons (fsS 3 nd (fe_ix fi_ix (fe_lst (fa_cons fe_int (fa_cons fe_int (fa_cons fe_int (fa_cons fe_int fa_nil))))) (fe_call (ok_law_take B) (hr.mono (by omega)) (takes_of rfl rfl rfl rfl) (m_law_take B) (d_law_take B).kp (bd_law_take B) (fa_cons (fv 2) (fa_cons fe_int fa_nil)))))
  (fb_cons (fsS 4 nd (fe_call (ok_law_take B) (hr.mono (by omega)) (takes_of rfl rfl rfl rfl) (m_law_take B) (d_law_take B).kp (bd_law_take B) (fa_cons (fv 2) (fa_cons fe_int fa_nil))))
  (fb_cons (fsS 5 nd (fe_call (ok_law_around B) (hr.mono (by omega)) (takes_of rfl rfl rfl rfl) (m_law_around B) (d_law_around B).kp (bd_law_around B) (fa_cons (fv 2) (fa_cons (fe_bin fo_add fe_int (fe_call (ok_law_take B) (hr.mono (by omega)) (takes_of rfl rfl rfl rfl) (m_law_take B) (d_law_take B).kp (bd_law_take B) (fa_cons (fv 2) (fa_cons fe_int fa_nil)))) fa_nil))))
  (fb_cons (fsS 6 nd (fe_call (ok_law_term B) (hr.mono (by omega)) (takes_of rfl rfl rfl rfl) (m_law_term B) (d_law_term B).kp (bd_law_term B) (fa_cons (fv 2) (fa_cons (fe_bin fo_add fe_int (fe_call (ok_law_take B) (hr.mono (by omega)) (takes_of rfl rfl rfl rfl) (m_law_take B) (d_law_take B).kp (bd_law_take B) (fa_cons (fv 2) (fa_cons fe_int fa_nil)))) (fa_cons fe_int fa_nil)))))
  (fb_cons (fs_if (ft_w (fw_and (ftc (fo_eq hr.units) (fe_call (ok_law_take B) (hr.mono (by omega)) (takes_of rfl rfl rfl rfl) (m_law_take B) (d_law_take B).kp (bd_law_take B) (fa_cons (fv 2) (fa_cons fe_int fa_nil))) fe_int) (fw_and1 (ftc (fo_eq hr.units) (fv 1) fe_int))))
  (fb_one (fsS 6 nd (fe_bin fo_add (fe_bin fo_mul (fe_tup (fa_cons (fe_un fu_neg fe_int) fa_nil)) (fe_bin fo_sub fe_int (fe_call (ok_law_take B) (hr.mono (by omega)) (takes_of rfl rfl rfl rfl) (m_law_take B) (d_law_take B).kp (bd_law_take B) (fa_cons (fv 2) (fa_cons fe_int fa_nil))))) (fe_tup (fa_cons (fe_call (ok_law_take B) (hr.mono (by omega)) (takes_of rfl rfl rfl rfl) (m_law_take B) (d_law_take B).kp (bd_law_take B) (fa_cons (fv 2) (fa_cons fe_int fa_nil))) fa_nil)))))
  fb_nil)
  (fb_cons (fs_for (passes_of rfl) rfl (fi_range1 rfl (z_range B) (fa_cons (fv 3) fa_nil)) (fgN 7 nd)
  (fb_one (fs_if (ftc (fo_eq hr.units) (fv 4) fe_int)
  (fb_one (fsS 6 nd (fe_call (ok_law_spoilt B 8) (hr.mono (by omega)) (takes_of rfl rfl rfl rfl) (m_law_spoilt B) (d_law_spoilt B).kp (bd_law_spoilt B) (fa_cons (fv 2) (fa_cons (fv 6) (fa_cons fe_int fa_nil))))))
  (fb_one (fsS 5 nd (fe_call (ok_law_spoilt B 8) (hr.mono (by omega)) (takes_of rfl rfl rfl rfl) (m_law_spoilt B) (d_law_spoilt B).kp (bd_law_spoilt B) (fa_cons (fv 2) (fa_cons (fv 5) (fa_cons fe_int fa_nil)))))))))
  (fb_cons (fsS 8 nd (fe_call (ok_is_surrounding B) (hr.mono (by omega)) (takes_of rfl rfl rfl rfl) (m_is_surrounding B) (d_is_surrounding B).kp (bd_is_surrounding B) (fa_cons (fv 5) fa_nil)))
  (fb_cons (fs_if (ft_w (fw_or (ft_not (ft_val (fe_isi (.inr (.inl rfl)) (z_isinstance B) (z_bool B) (fv 8)))) (fw_or1 (ftc (fo_ne hr.units) (fv 8) (fe_call (ok_law_is_around B) (hr.mono (by omega)) (takes_of rfl rfl rfl rfl) (m_law_is_around B) (d_law_is_around B).kp (bd_law_is_around B) (fa_cons (fv 5) fa_nil))))))
  (fb_one (fs_ret fe_bl))
  fb_nil)
  (fb_cons (fsS 9 nd (fe_call (ok_law_due B) (hr.mono (by omega)) (takes_of rfl rfl rfl rfl) (m_law_due B) (d_law_due B).kp (bd_law_due B) (fa_cons (fv 5) (fa_cons (fv 6) fa_nil))))
  (fb_cons (fsS 8 nd (fe_call (ok_law_say B) (hr.mono (by omega)) (takes_of rfl rfl rfl rfl) (m_law_say B) (d_law_say B).kp (bd_law_say B) (fa_cons (fv 5) (fa_cons (fv 6) fa_nil))))
  (fb_one (fs_if (ft_w (fw_or (ftc (fo_ne hr.units) (fv 8) (fv 9)) (fw_or1 (ft_w (fw_and (ft_val (fe_isi (.inr (.inr (.inr (.inl rfl)))) (z_isinstance B) (z_tuple B) (fv 9))) (fw_and1 (ft_not (ft_val (fe_isi (.inr (.inr (.inr (.inl rfl)))) (z_isinstance B) (z_tuple B) (fv 8))))))))))
  (fb_one (fs_ret fe_bl))
  fb_nil))))))))))))))
  (fb_one (fs_ret fe_bl)))
end
end K57


set_option Elab.async false
set_option linter.all false
set_option maxRecDepth 100000
set_option maxHeartbeats 0
namespace K57
open PySem PySem.Spec PyProof.Rows L2 Fx
def loose0 : List Str := ["Wrong", "NoTerm", "NoPlace", "NoStep", "NoRow", "InOrder", "NoSize", "TooMuch", "NoOpening", "NoTree", "NoLast", "Alike", "NotAlike", "NoHole", "NoForms", "NoLink", "NoText", "NoName", "TURN", "GIFT"]
def loose1 : List Str := ["MOST", "FAR", "is_whole", "more_due", "is_read", "is_term", "look_term", "HOLE", "MOST_AROUND", "awaited_behind", "is_surrounding", "look_around", "put_in_hole", "filled", "_law_purse", "_law_take", "_law_wholes", "_law_end", "_law_is_term", "_law_term"]
def loose2 : List Str := ["_law_around", "_law_is_around", "_law_spoilt", "_law_kind", "_law_say", "_law_due"]
def loose : List Str := loose0 ++ loose1 ++ loose2
abbrev RR : PySem.W.OpenRow := PySem.W.OpenLaw.row PySem.Challenge.rw_rowapart_k57_surroundings
abbrev hk : PySem.W.Hook := hookE 4 fa fn exB
def ob (s : PySem.W.SharedT) : AlE := obsE 4 fa fn exB (HandSHeadRun.getT s)
theorem ob_eq (s : PySem.W.SharedT) : ob s = hk.obs s.abs := obsE_eq (HandSHeadRun.getT_eq s)
theorem run (w : World) : HandSHeadRun.RunEq RR (PySem.W.view RR.prog [50]) hk ob 12000 loose w := by
  intro os
  kernel_rfl
end K57
open PySem PySem.W PySem.Calls PyProof.Rows
theorem K57.holds_of (hl : ∀ ns : List Int, ns.length ≤ 63 → ∃ st, K57.f_law [.rol (ns.map .int)] [] = .ok (.bl true) st) : PySem.Challenge.rw_rowapart_k57_surroundings.Holds := by
  w_on; o_law
  refine HandSHeadRun.head_any (r := OpenLaw.row PySem.Challenge.rw_rowapart_k57_surroundings) (q := view (OpenLaw.row PySem.Challenge.rw_rowapart_k57_surroundings).prog [50]) (H := K57.hk) (ob := K57.ob) (M := 12000) (loose := K57.loose) (d := HandSHeadRun.topDef (OpenLaw.row PySem.Challenge.rw_rowapart_k57_surroundings).prog 50) (kwd := []) K57.ob_eq
    (by kernel_rfl) (fun s => by kernel_rfl) K57.run (by kernel_rfl) (by kernel_rfl) (by kernel_rfl) (by rfl) (by first | assumption | decide +kernel) (by decide +kernel) ⟨rfl, rfl, rfl, rfl, rfl, by decide +kernel⟩ ?hw ?hc
  case hw => w_witness2
  case hc =>
    refine Fx.walk_ofW (l := PySem.Challenge.rw_rowapart_k57_surroundings) (n := 63) (k := 11) (x := "_law_script") rfl (by decide) (by kernel_rfl) ⟨rfl, by decide, by decide⟩ ?F
    intro w mg fa h Y G hmg0
    obtain ⟨K, KX, c, e⟩ := Y
    have B : K57.Bd (PySem.Challenge.rw_rowapart_k57_surroundings).prog w K mg := ⟨c, e, h, KX, G⟩
    have hmg : mg ("law" : PySem.Str) = some (.ref fa) := by
      have e : (HandSHeadRun.topDef (OpenLaw.row PySem.Challenge.rw_rowapart_k57_surroundings).prog 50).name = ("law" : PySem.Str) := by kernel_rfl
      rw [← e]
      exact hmg0
    have e2 := hmg.symm.trans (K57.m_law B)
    cases e2
    have b := L2.FunD.bindsA (ps := ["_law_script"]) (K57.d_law B) fun _ _ _ _ _ _ us hl => match us, hl with | [_], _ => rfl
    exact ⟨K, Fx.fdOf K (He.ga K "law"), Fx.spF K mg 1 K57.f_law, KX, fun s v => b s [v] rfl, fun H a ns hn _ hS => Fx.law_sp hS (hl ns hn), fun base _ _ => K57.ok_law B⟩

set_option Elab.async false
set_option linter.all false
set_option maxRecDepth 100000
set_option maxHeartbeats 4000000
/-! Mx: reckoning with the evaluators -/
namespace Fx
open PySem PySem.Spec PyProof.Rows L2
@[simp] theorem sx_at {α : Type} (xs : List α) (i : Int) : atI xs i = (ixN xs.length i).bind fun j => xs[j]? := rfl
@[simp] theorem sx_ix (n : Nat) (i : Int) : ixN n i = if 0 ≤ i then (if i < n then some i.toNat else none) else if -(n : Int) ≤ i then some (i + n).toNat else none := rfl
theorem keepsB_refl (n : Nat) (st : Store) : keepsB n st st := fun _ _ => .inl rfl
theorem finD_app {st0 : Store} {d : D} {j : Store} (h : pureD d = true) : finD st0 d (st0 ++ j) = .ok d st0 := by
  unfold finD frzT
  have e : keepsB st0.length st0 (st0 ++ j) := fun k hk => .inl (List.getElem?_append_left hk)
  rw [if_pos e, if_pos h]
  show R.ok d (List.take st0.length (st0 ++ j)) = _
  rw [List.take_left]
theorem finD_id {st0 : Store} {d : D} (h : pureD d = true) : finD st0 d st0 = .ok d st0 := by
  have := finD_app (st0 := st0) (j := []) h
  rwa [List.append_nil] at this
/-- only the cell k is changed, it is pure -/
structure Chg (k : Nat) (st st' : Store) : Prop where
  len : st'.length = st.length
  oth : ∀ j, j ≠ k → st'[j]? = st[j]?
  pu : ∀ c, st'[k]? = some c → pureC c = true
theorem Chg.keeps {k : Nat} {st st' : Store} (h : Chg k st st') (j : Store) : keepsB st.length st (st' ++ j) := fun i hi => by
  rw [List.getElem?_append_left (by rw [h.len]; exact hi)]
  by_cases e : i = k
  · subst e
    have hl : i < st'.length := by rw [h.len]; exact hi
    exact .inr ⟨st'[i], List.getElem?_eq_getElem hl, h.pu _ (List.getElem?_eq_getElem hl)⟩
  · exact .inl (h.oth i e)
theorem finD_chg {k : Nat} {st0 st1 j : Store} {d d' : D} (h : Chg k st0 st1) (f : frzT st0.length (st1 ++ j) d = some d') : finD st0 d (st1 ++ j) = .ok d' st1 := by
  unfold finD
  rw [if_pos (h.keeps j), f]
  show R.ok d' (List.take st0.length (st1 ++ j)) = _
  rw [← h.len, List.take_left]
theorem finD_chg0 {k : Nat} {st0 st1 : Store} {d : D} (h : Chg k st0 st1) (p : pureD d = true) : finD st0 d st1 = .ok d st1 := by
  have := finD_chg (j := []) (d := d) (d' := d) h (by unfold frzT; rw [if_pos p])
  rwa [List.append_nil] at this
theorem Chg.refl {k : Nat} {st : Store} (h : ∀ c, st[k]? = some c → pureC c = true) : Chg k st st := ⟨rfl, fun _ _ => rfl, h⟩
theorem Chg.set {k : Nat} {st : Store} {c : Cell} (h : pureC c = true) : Chg k st (st.set k c) := ⟨List.length_set, fun j hj => List.getElem?_set_ne (Ne.symm hj), fun c' hc => by
  by_cases hk : k < st.length
  · rw [List.getElem?_set_self hk] at hc
    cases hc
    exact h
  · rw [List.getElem?_eq_none (by rw [List.length_set]; omega)] at hc
    cases hc⟩
theorem Chg.trans {k : Nat} {a b c : Store} (h : Chg k a b) (g : Chg k b c) : Chg k a c := ⟨g.len.trans h.len, fun j hj => (g.oth j hj).trans (h.oth j hj), g.pu⟩
/-- a purse: n its turns at most -/
def Purse (st : Store) (k n : Nat) : Prop := ∃ a b c : Int, 0 ≤ a ∧ 0 ≤ b ∧ b < 2147483648 ∧ 0 ≤ c ∧ c ≤ n ∧ st[k]? = some (.lst [.int a, .int b, .int c])
/-! ### plain data: depth at most n, width at most w -/
def Pl : Nat → Nat → D → Prop
  | _, _, .non => True
  | _, _, .bl _ => True
  | _, _, .int _ => True
  | _, w, .str x => x.length ≤ w ∧ ∀ c ∈ x.cps.toList, c < 0x110000
  | n + 1, w, .tup ds => ds.length ≤ w ∧ ∀ d ∈ ds, Pl n w d
  | n + 1, w, .lst ds => ds.length ≤ w ∧ ∀ d ∈ ds, Pl n w d
  | _, _, _ => False
theorem purL_all : ∀ {ds : List D}, (∀ d ∈ ds, pureD d = true) → purL ds = true
  | [], _ => rfl
  | d :: ds, h => by
    show (pureD d && purL ds) = true
    rw [h d List.mem_cons_self, purL_all fun e he => h e (List.mem_cons_of_mem _ he)]
    rfl
theorem Pl.pure : ∀ {n w : Nat} {d : D}, Pl n w d → pureD d = true
  | _, _, .non, _ => rfl
  | _, _, .bl _, _ => rfl
  | _, _, .int _, _ => rfl
  | _, _, .str _, _ => rfl
  | n + 1, w, .tup ds, h => by
    unfold Pl at h
    exact purL_all fun d hd => (h.2 d hd).pure
  | n + 1, w, .lst ds, h => by
    unfold Pl at h
    exact purL_all fun d hd => (h.2 d hd).pure
  | 0, w, .tup ds, h => by unfold Pl at h; exact h.elim
  | 0, w, .lst ds, h => by unfold Pl at h; exact h.elim
  | _, w, .rol ds, h => by unfold Pl at h; exact h.elim
  | _, w, .own ds, h => by unfold Pl at h; exact h.elim
  | _, w, .glo ds, h => by unfold Pl at h; exact h.elim
theorem Pl.mono : ∀ {n w m v : Nat} {d : D}, n ≤ m → w ≤ v → Pl n w d → Pl m v d
  | _, _, _, _, .non, _, _, _ => by simp [Pl]
  | _, _, _, _, .bl _, _, _, _ => by simp [Pl]
  | _, _, _, _, .int _, _, _, _ => by simp [Pl]
  | _, _, _, _, .str _, _, g, h => by
    unfold Pl at h ⊢
    exact ⟨Nat.le_trans h.1 g, h.2⟩
  | n + 1, w, m + 1, v, .tup ds, g, g2, h => by
    unfold Pl at h ⊢
    exact ⟨Nat.le_trans h.1 g2, fun d hd => (h.2 d hd).mono (Nat.le_of_succ_le_succ g) g2⟩
  | n + 1, w, m + 1, v, .lst ds, g, g2, h => by
    unfold Pl at h ⊢
    exact ⟨Nat.le_trans h.1 g2, fun d hd => (h.2 d hd).mono (Nat.le_of_succ_le_succ g) g2⟩
  | n + 1, _, 0, _, .tup ds, g, _, h => by omega
  | n + 1, _, 0, _, .lst ds, g, _, h => by omega
  | 0, w, _, _, .tup ds, _, _, h => by unfold Pl at h; exact h.elim
  | 0, w, _, _, .lst ds, _, _, h => by unfold Pl at h; exact h.elim
  | _, w, _, _, .rol ds, _, _, h => by unfold Pl at h; exact h.elim
  | _, w, _, _, .own ds, _, _, h => by unfold Pl at h; exact h.elim
  | _, w, _, _, .glo ds, _, _, h => by unfold Pl at h; exact h.elim
theorem pys_all {n : Nat} : ∀ {ds : List D}, (∀ d ∈ ds, ∃ x, py d = some x ∧ x.canLay0 = true ∧ x.depth ≤ n) → ∃ l, pys ds = some l ∧ l.length = ds.length ∧ PyData.canLayAll0 l = true ∧ PyData.depthAll l ≤ n
  | [], _ => ⟨[], by unfold pys; rfl, rfl, by unfold PyData.canLayAll0; rfl, by unfold PyData.depthAll; exact Nat.zero_le _⟩
  | d :: ds, h => by
    obtain ⟨x, h1, h2, h3⟩ := h d List.mem_cons_self
    obtain ⟨l, g1, g0, g2, g3⟩ := pys_all fun e he => h e (List.mem_cons_of_mem _ he)
    refine ⟨x :: l, by unfold pys; rw [h1, g1], by rw [List.length_cons, List.length_cons, g0], by unfold PyData.canLayAll0; rw [h2, g2]; rfl, by unfold PyData.depthAll; exact Nat.max_le.mpr ⟨h3, g3⟩⟩
theorem Pl.py : ∀ {n w : Nat} {d : D}, Pl n w d → ∃ x, py d = some x ∧ x.canLay0 = true ∧ x.depth ≤ n
  | _, _, .non, _ => ⟨.none, by unfold Fx.py; rfl, by unfold PyData.canLay0; rfl, by unfold PyData.depth; exact Nat.zero_le _⟩
  | _, _, .bl b, _ => ⟨.bool b, by unfold Fx.py; rfl, by unfold PyData.canLay0; rfl, by unfold PyData.depth; exact Nat.zero_le _⟩
  | _, _, .int i, _ => ⟨.int i, by unfold Fx.py; rfl, by unfold PyData.canLay0; rfl, by unfold PyData.depth; exact Nat.zero_le _⟩
  | _, _, .str x, h => ⟨.str x, by unfold Fx.py; rfl, by
      unfold Pl at h
      unfold PyData.canLay0 PyData.strOk
      rw [Array.all_eq_true']
      exact fun c hc => decide_eq_true (h.2 c (Array.mem_toList_iff.mpr hc)), by unfold PyData.depth; exact Nat.zero_le _⟩
  | n + 1, w, .tup ds, h => by
    unfold Pl at h
    obtain ⟨l, g1, _, g2, g3⟩ := pys_all fun d hd => (h.2 d hd).py
    exact ⟨.tuple l, by unfold Fx.py; rw [g1], by unfold PyData.canLay0; exact g2, by unfold PyData.depth; omega⟩
  | n + 1, w, .lst ds, h => by
    unfold Pl at h
    obtain ⟨l, g1, _, g2, g3⟩ := pys_all fun d hd => (h.2 d hd).py
    exact ⟨.list l, by unfold Fx.py; rw [g1], by unfold PyData.canLay0; exact g2, by unfold PyData.depth; omega⟩
  | 0, w, .tup ds, h => by unfold Pl at h; exact h.elim
  | 0, w, .lst ds, h => by unfold Pl at h; exact h.elim
  | _, w, .rol ds, h => by unfold Pl at h; exact h.elim
  | _, w, .own ds, h => by unfold Pl at h; exact h.elim
  | _, w, .glo ds, h => by unfold Pl at h; exact h.elim
theorem eqv_nil : ∀ {l : List PyData}, PyData.eqv (.tuple l) (.tuple []) = l.isEmpty
  | [] => by unfold PyData.eqv PyData.eqvAll; rfl
  | _ :: _ => by unfold PyData.eqv PyData.eqvAll; rfl
/-- thing == () -/
theorem dEq_nil {n w : Nat} {ds : List D} {st : Store} (h : Pl n w (.tup ds)) (hn : n ≤ 64) : dEq (.tup ds) (.tup []) st = .ok (.bl ds.isEmpty) st := by
  cases n with
  | zero => unfold Pl at h; exact h.elim
  | succ n =>
    have h' := h
    unfold Pl at h'
    obtain ⟨l, g1, g0, g2, g3⟩ := pys_all fun d hd => (h'.2 d hd).py
    have e1 : pyOf (.tup ds) st = some (.tuple l) := by
      show Fx.py (.tup ds) = _
      unfold Fx.py
      rw [g1]
    have e2 : pyOf (.tup []) st = some (.tuple []) := by
      show Fx.py (.tup []) = _
      unfold Fx.py pys
      rfl
    have s1 : SeqAt.shaped (.tuple l) = true := by
      unfold SeqAt.shaped PyData.canLay0 PyData.depth
      rw [g2]
      exact decide_eq_true (by omega)
    have s2 : SeqAt.shaped (.tuple []) = true := by
      unfold SeqAt.shaped PyData.canLay0 PyData.depth PyData.canLayAll0 PyData.depthAll
      rfl
    unfold dEq
    simp only [e1, e2, s1, s2, and_self, if_true, eqv_nil]
    congr 2
    cases ds <;> cases l <;> first | rfl | cases g0
end Fx

set_option Elab.async false
set_option linter.all false
set_option maxRecDepth 100000
set_option maxHeartbeats 4000000
/-! Mx: loops over lists -/
namespace Fx
open PySem PySem.Spec PyProof.Rows L2
def forL (g : GE) (body : SE) : List D → SE
  | [] => fun σ st => .nx σ st
  | d :: ds => fun σ st => match g d σ with
    | none => .bad
    | some σ1 => match body σ1 st with
      | .nx σ2 st2 => forL g body ds σ2 st2
      | .cnt σ2 st2 => forL g body ds σ2 st2
      | .brk σ2 st2 => .nx σ2 st2
      | .ret d st2 => .ret d st2
      | .exc e σ2 st2 => .exc e σ2 st2
      | .bad => .bad
theorem forLoop_drop {g : GE} {body : SE} {ds : List D} : ∀ (n i : Nat) (σ : Slots) (st : Store), n + i = ds.length + 1 → 0 < n → forLoop (fun i _ => some ds[i]?) g body n i σ st = forL g body (ds.drop i) σ st
  | 0, _, _, _, _, h => by omega
  | n + 1, i, σ, st, h, _ => by
    unfold forLoop
    by_cases hi : i < ds.length
    · rw [List.drop_eq_getElem_cons hi, List.getElem?_eq_getElem hi]
      unfold forL
      dsimp only
      cases g ds[i] σ with
      | none => rfl
      | some σ1 =>
        dsimp only
        cases body σ1 st with
        | nx σ2 st2 => exact forLoop_drop n (i + 1) σ2 st2 (by omega) (by omega)
        | cnt σ2 st2 => exact forLoop_drop n (i + 1) σ2 st2 (by omega) (by omega)
        | _ => rfl
    · rw [List.drop_eq_nil_of_le (by omega), List.getElem?_eq_none (by omega)]
      rfl
@[simp] theorem forLoop_itD {g : GE} {body : SE} {ds : List D} {σ : Slots} {st : Store} : forLoop (itD ds).get g body (itD ds).n 0 σ st = forL g body ds σ st := forLoop_drop _ _ _ _ (by unfold itD; rfl) (by unfold itD; exact Nat.succ_pos _)
/-- range(n) -/
theorem forLoop_rng {g : GE} {body : SE} {n : Nat} {σ : Slots} {st : Store} : forLoop (fun i _ => some (if i < n then some (.int (i : Int)) else none)) g body (n + 1) 0 σ st = forL g body ((List.range n).map fun (i : Nat) => D.int (i : Int)) σ st := by
  have e : (fun (i : Nat) (_ : Store) => some (if i < n then some (D.int (i : Int)) else none)) = fun i _ => some ((List.range n).map fun (i : Nat) => D.int (i : Int))[i]? := by
    funext i _
    congr 1
    by_cases h : i < n
    · rw [if_pos h, List.getElem?_map, List.getElem?_range h]
      rfl
    · rw [if_neg h, List.getElem?_eq_none (by rw [List.length_map, List.length_range]; omega)]
  rw [e, forLoop_drop _ _ _ _ (by rw [List.length_map, List.length_range]) (Nat.succ_pos _)]
  rfl
theorem forL_at {g : GE} {body : SE} {ds : List D} {σ : Slots} {st : Store} {r : RS} {Inv : List D → Slots → Store → Prop} {Q : RS → Prop} (hr : forL g body ds σ st = r)
    (inv : Inv ds σ st)
    (step : ∀ d ds σ st, Inv (d :: ds) σ st → ∃ σ1, g d σ = some σ1 ∧ (match body σ1 st with
      | .nx σ2 st2 => Inv ds σ2 st2
      | .cnt σ2 st2 => Inv ds σ2 st2
      | .brk σ2 st2 => Q (.nx σ2 st2)
      | .ret d st2 => Q (.ret d st2)
      | .exc e σ2 st2 => Q (.exc e σ2 st2)
      | .bad => False))
    (done : ∀ σ st, Inv [] σ st → Q (.nx σ st)) : Q r := by
  subst hr
  induction ds generalizing σ st with
  | nil => exact done _ _ inv
  | cons d ds ih =>
    obtain ⟨σ1, h1, h2⟩ := step d ds σ st inv
    unfold forL
    rw [h1]
    dsimp only
    cases hb : body σ1 st with
    | nx σ2 st2 => rw [hb] at h2; exact ih h2
    | cnt σ2 st2 => rw [hb] at h2; exact ih h2
    | brk σ2 st2 => rw [hb] at h2; exact h2
    | ret d st2 => rw [hb] at h2; exact h2
    | exc e σ2 st2 => rw [hb] at h2; exact h2
    | bad => rw [hb] at h2; exact h2.elim
/-- a while loop: m falls -/
theorem while_at {c : ET} {body : SE} {f : Nat} {σ : Slots} {st : Store} {r : RS} {Inv : Nat → Slots → Store → Prop} {Q : RS → Prop} (hr : whileLoop c body f σ st = r) {m : Nat}
    (inv : Inv m σ st) (hm : m < f)
    (step : ∀ m σ st, Inv m σ st → ∃ b st1, c σ st = .ok b st1 ∧ (if b = true then (match body σ st1 with
      | .nx σ2 st2 => ∃ m', m' < m ∧ Inv m' σ2 st2
      | .cnt σ2 st2 => ∃ m', m' < m ∧ Inv m' σ2 st2
      | .brk σ2 st2 => Q (.nx σ2 st2)
      | .ret d st2 => Q (.ret d st2)
      | .exc e σ2 st2 => Q (.exc e σ2 st2)
      | .bad => False) else Q (.nx σ st1))) : Q r := by
  subst hr
  induction f generalizing m σ st with
  | zero => omega
  | succ f ih =>
    obtain ⟨b, st1, h1, h2⟩ := step m σ st inv
    unfold whileLoop
    rw [h1]
    show Q (if b = true then _ else _)
    cases b with
    | false => exact h2
    | true =>
      rw [if_pos rfl] at h2 ⊢
      cases hb : body σ st1 with
      | nx σ2 st2 => rw [hb] at h2; obtain ⟨m', q, i⟩ := h2; exact ih i (by omega)
      | cnt σ2 st2 => rw [hb] at h2; obtain ⟨m', q, i⟩ := h2; exact ih i (by omega)
      | brk σ2 st2 => rw [hb] at h2; exact h2
      | ret d st2 => rw [hb] at h2; exact h2
      | exc e σ2 st2 => rw [hb] at h2; exact h2
      | bad => rw [hb] at h2; exact h2.elim
/-- a comprehension over a list, its test and its item leave the store alone -/
theorem comp_drop {g : GE} {c : ET} {e : EE} {σ : Slots} {st : Store} {ds : List D} {p : D → Bool} {F : D → D}
    (h : ∀ d ∈ ds, ∀ acc, ∃ σ1, g d σ = some σ1 ∧ c σ1 (st ++ [.lst acc]) = .ok (p d) (st ++ [.lst acc]) ∧ (p d = true → e σ1 (st ++ [.lst acc]) = .ok (F d) (st ++ [.lst acc]))) :
    ∀ (n i : Nat) (acc : List D), n + i = ds.length + 1 → 0 < n → acc.length + (ds.length - i) ≤ 16777216 →
      compLoop (fun i _ => some ds[i]?) g c e σ st.length n i (st ++ [.lst acc]) = .ok (.own st.length) (st ++ [.lst (acc ++ ((ds.drop i).filter p).map F)])
  | 0, _, _, _, h, _ => by omega
  | n + 1, i, acc, hn, _, hl => by
    unfold compLoop
    by_cases hi : i < ds.length
    · rw [List.drop_eq_getElem_cons hi, List.getElem?_eq_getElem hi]
      obtain ⟨σ1, h1, h2, h3⟩ := h ds[i] (List.getElem_mem hi) acc
      dsimp only
      rw [h1]
      dsimp only
      rw [h2]
      cases hp : p ds[i] with
      | false =>
        have ih := comp_drop h n (i + 1) acc (by omega) (by omega) (by omega)
        rw [List.filter_cons_of_neg (by rw [hp]; exact Bool.false_ne_true)]
        exact ih
      | true =>
        have ih := comp_drop h n (i + 1) (acc ++ [F ds[i]]) (by omega) (by omega) (by rw [List.length_append, List.length_singleton]; omega)
        rw [List.filter_cons_of_pos hp, List.map_cons]
        show (R.bind (e σ1 (st ++ [.lst acc])) _) = _
        rw [h3 hp]
        rw [R.bind_ok]
        have e1 : (st ++ [Cell.lst acc])[st.length]? = some (.lst acc) := by simp
        have e2 : (st ++ [Cell.lst acc]).set st.length (.lst (acc ++ [F ds[i]])) = st ++ [.lst (acc ++ [F ds[i]])] := by simp
        rw [e1]
        dsimp only
        rw [if_pos (by omega), e2, ih, List.append_assoc]
        rfl
    · rw [List.drop_eq_nil_of_le (by omega), List.getElem?_eq_none (by omega)]
      simp
theorem comp_itD {g : GE} {c : ET} {e : EE} {σ : Slots} {st : Store} {ds : List D} {p : D → Bool} {F : D → D}
    (h : ∀ d ∈ ds, ∀ acc, ∃ σ1, g d σ = some σ1 ∧ c σ1 (st ++ [.lst acc]) = .ok (p d) (st ++ [.lst acc]) ∧ (p d = true → e σ1 (st ++ [.lst acc]) = .ok (F d) (st ++ [.lst acc]))) (hl : ds.length ≤ 16777216) :
    compLoop (itD ds).get g c e σ st.length (itD ds).n 0 (st ++ [.lst []]) = .ok (.own st.length) (st ++ [.lst ((ds.filter p).map F)]) := by
  have := comp_drop h (ds.length + 1) 0 [] rfl (Nat.succ_pos _) (by simpa using hl)
  exact this
/-! ### freezing plain data -/
theorem mapO_id {f : D → Option D} : ∀ {ds : List D}, (∀ d ∈ ds, f d = some d) → mapO f ds = some ds
  | [], _ => rfl
  | d :: ds, h => by
    unfold mapO
    rw [h d List.mem_cons_self, mapO_id fun e he => h e (List.mem_cons_of_mem _ he)]
theorem Pl.frz {st : Store} {i : Nat} : ∀ {n w f : Nat} {d : D}, Pl n w d → n < f → Fx.frz i st f d = some d
  | _, _, 0, _, _, h => by omega
  | _, _, f + 1, .non, _, _ => by unfold Fx.frz; rfl
  | _, _, f + 1, .bl _, _, _ => by unfold Fx.frz; rfl
  | _, _, f + 1, .int _, _, _ => by unfold Fx.frz; rfl
  | _, _, f + 1, .str _, _, _ => by unfold Fx.frz; rfl
  | n + 1, w, f + 1, .tup ds, h, hf => by
    unfold Pl at h
    unfold Fx.frz
    dsimp only
    rw [mapO_id fun d hd => (h.2 d hd).frz (by omega)]
  | n + 1, w, f + 1, .lst ds, h, hf => by
    unfold Pl at h
    unfold Fx.frz
    dsimp only
    rw [if_pos (purL_all fun d hd => (h.2 d hd).pure)]
  | 0, w, _, .tup ds, h, _ => by unfold Pl at h; exact h.elim
  | 0, w, _, .lst ds, h, _ => by unfold Pl at h; exact h.elim
  | _, w, _, .rol ds, h, _ => by unfold Pl at h; exact h.elim
  | _, w, _, .own ds, h, _ => by unfold Pl at h; exact h.elim
  | _, w, _, .glo ds, h, _ => by unfold Pl at h; exact h.elim
theorem frzT_pl {n w i : Nat} {st : Store} {d : D} (h : Pl n w d) : frzT i st d = some d := by
  unfold frzT
  rw [if_pos h.pure]
/-- an own list of plain data -/
theorem frzT_own {n w i k : Nat} {st : Store} {ds : List D} (hk : st[k]? = some (.lst ds)) (hi : i ≤ k) (h : ∀ d ∈ ds, Pl n w d) (hn : n < 8) : frzT i st (.own k) = some (.lst ds) := by
  unfold frzT Fx.frz
  dsimp only
  rw [if_neg (show ¬ pureD (.own k) = true from Bool.false_ne_true), if_neg (by omega), hk]
  dsimp only
  rw [mapO_id fun d hd => (h d hd).frz hn]
/-! ### least, greatest -/
theorem foldmin_lt {c : Int} : ∀ {xs : List Int} {x : Int}, (xs.foldl (fun a y => if y < a then y else a) x < c) ↔ x < c ∨ ∃ y ∈ xs, y < c
  | [], x => by simp
  | y :: ys, x => by
    rw [List.foldl_cons, foldmin_lt]
    constructor
    · rintro (h | ⟨z, h1, h2⟩)
      · split at h
        · exact .inr ⟨y, List.mem_cons_self, h⟩
        · exact .inl h
      · exact .inr ⟨z, List.mem_cons_of_mem _ h1, h2⟩
    · rintro (h | ⟨z, h1, h2⟩)
      · left
        split <;> omega
      · cases List.mem_cons.mp h1 with
        | inl e => subst e; left; split <;> omega
        | inr e => exact .inr ⟨z, e, h2⟩
theorem foldmax_lt {c : Int} : ∀ {xs : List Int} {x : Int}, (c < xs.foldl (fun a y => if a < y then y else a) x) ↔ c < x ∨ ∃ y ∈ xs, c < y
  | [], x => by simp
  | y :: ys, x => by
    rw [List.foldl_cons, foldmax_lt]
    constructor
    · rintro (h | ⟨z, h1, h2⟩)
      · split at h
        · exact .inr ⟨y, List.mem_cons_self, h⟩
        · exact .inl h
      · exact .inr ⟨z, List.mem_cons_of_mem _ h1, h2⟩
    · rintro (h | ⟨z, h1, h2⟩)
      · left
        split <;> omega
      · cases List.mem_cons.mp h1 with
        | inl e => subst e; left; split <;> omega
        | inr e => exact .inr ⟨z, e, h2⟩
theorem minI_lt {c x : Int} {xs : List Int} : minI x xs < c ↔ ∃ y ∈ x :: xs, y < c := by
  unfold minI
  rw [foldmin_lt]
  simp
theorem maxI_lt {c x : Int} {xs : List Int} : c < maxI x xs ↔ ∃ y ∈ x :: xs, c < y := by
  unfold maxI
  rw [foldmax_lt]
  simp
/-! ### ints -/
def isI : D → Bool
  | .int _ => true
  | _ => false
theorem intsOf_all : ∀ {ds : List D}, ds.all isI = true → ∃ is, intsOf ds = some is ∧ ds = is.map D.int
  | [], _ => ⟨[], rfl, rfl⟩
  | .int i :: ds, h => by
    obtain ⟨is, h1, h2⟩ := intsOf_all (ds := ds) h
    exact ⟨i :: is, by unfold intsOf; rw [h1], by rw [h2]; rfl⟩
  | .non :: ds, h => by cases h
  | .bl _ :: ds, h => by cases h
  | .str _ :: ds, h => by cases h
  | .tup _ :: ds, h => by cases h
  | .lst _ :: ds, h => by cases h
  | .rol _ :: ds, h => by cases h
  | .own _ :: ds, h => by cases h
  | .glo _ :: ds, h => by cases h
theorem intsOf_mapI : ∀ {is : List Int}, intsOf (is.map D.int) = some is
  | [] => rfl
  | i :: is => by
    show (match intsOf (is.map D.int) with
      | some l => some (i :: l)
      | none => none) = _
    rw [intsOf_mapI]
theorem all_map {is : List Int} : (is.map D.int).all isI = true := by simp [isI]
theorem blsOf_mapI {f : D → Bool} : ∀ {ds : List D}, blsOf (ds.map fun d => .bl (f d)) = some (ds.map f)
  | [] => rfl
  | d :: ds => by
    show (match blsOf (ds.map fun d => D.bl (f d)) with
      | some l => some (f d :: l)
      | none => none) = _
    rw [blsOf_mapI]
    rfl
theorem Pl.ints {n w : Nat} {is : List Int} (h : is.length ≤ w) : Pl (n + 1) w (.tup (is.map .int)) := by
  unfold Pl
  refine ⟨by rw [List.length_map]; exact h, fun d hd => ?_⟩
  obtain ⟨i, _, rfl⟩ := List.mem_map.mp hd
  cases n <;> (unfold Pl; trivial)
theorem Pl.int {n w : Nat} {i : Int} : Pl n w (.int i) := by cases n <;> (unfold Pl; trivial)
theorem Pl.bl {n w : Nat} {i : Bool} : Pl n w (.bl i) := by cases n <;> (unfold Pl; trivial)
theorem Pl.non {n w : Nat} : Pl n w .non := by cases n <;> (unfold Pl; trivial)
theorem Pl.isTy {n w : Nat} {d : D} {st : Store} (h : Pl n w d) : tyOf d st = some "tuple" ∧ (∃ ds, d = .tup ds) ∨ tyOf d st = some "list" ∧ (∃ ds, d = .lst ds) ∨ tyOf d st = some "int" ∧ (∃ i, d = .int i) ∨ tyOf d st = some "bool" ∧ (∃ i, d = .bl i) ∨ tyOf d st = some "str" ∧ (∃ i, d = .str i) ∨ tyOf d st = some "NoneType" ∧ d = .non := by
  cases d with
  | non => simp [tyOf]
  | bl _ => simp [tyOf]
  | int _ => simp [tyOf]
  | str _ => simp [tyOf]
  | tup _ => simp [tyOf]
  | lst _ => simp [tyOf]
  | rol _ => unfold Pl at h; exact h.elim
  | own _ => unfold Pl at h; exact h.elim
  | glo _ => unfold Pl at h; exact h.elim
theorem eqvAll_ints : ∀ {l : List PyData}, (∀ x ∈ l, PyData.eqv x x = true) → PyData.eqvAll l l = true
  | [], _ => by unfold PyData.eqvAll; rfl
  | x :: l, h => by
    unfold PyData.eqvAll
    rw [h x List.mem_cons_self, eqvAll_ints fun y hy => h y (List.mem_cons_of_mem _ hy)]
    rfl
theorem pys_ints : ∀ {is : List Int}, pys (is.map D.int) = some (is.map PyData.int)
  | [] => by unfold pys; rfl
  | i :: is => by
    rw [List.map_cons]
    unfold pys
    rw [pys_ints]
    unfold py
    rfl
theorem lay_ints : ∀ {is : List Int}, PyData.canLayAll0 (is.map PyData.int) = true ∧ PyData.depthAll (is.map PyData.int) = 0
  | [] => ⟨by unfold PyData.canLayAll0; rfl, by unfold PyData.depthAll; rfl⟩
  | i :: is => by
    obtain ⟨h1, h2⟩ := lay_ints (is := is)
    exact ⟨by rw [List.map_cons]; unfold PyData.canLayAll0 PyData.canLay0; rw [h1]; rfl, by rw [List.map_cons]; unfold PyData.depthAll PyData.depth; rw [h2]; rfl⟩
/-- a tuple of whole numbers is not other than itself -/
theorem dNe_ints {is : List Int} {st : Store} : dNe (.tup (is.map .int)) (.tup (is.map .int)) st = .ok (.bl false) st := by
  have e1 : pyOf (.tup (is.map .int)) st = some (.tuple (is.map .int)) := by
    show py (.tup _) = _
    unfold py
    rw [pys_ints]
  have s1 : SeqAt.shaped (.tuple (is.map .int)) = true := by
    unfold SeqAt.shaped PyData.canLay0 PyData.depth
    rw [lay_ints.1, lay_ints.2]
    rfl
  have q : PyData.eqv (.tuple (is.map .int)) (.tuple (is.map .int)) = true := by
    unfold PyData.eqv
    refine eqvAll_ints fun x hx => ?_
    obtain ⟨i, _, rfl⟩ := List.mem_map.mp hx
    unfold PyData.eqv
    exact beq_self_eq_true i
  unfold dNe
  simp only [e1, s1, and_self, if_true, q]
  rfl
end Fx

set_option Elab.async false
set_option linter.all false
set_option maxRecDepth 100000
set_option maxHeartbeats 4000000
/-! Mx: terms in plain words -/
namespace Fx
open PySem PySem.Spec PyProof.Rows L2
@[simp] theorem finD_bl {st : Store} {b : Bool} : finD st (.bl b) st = .ok (.bl b) st := finD_id rfl
@[simp] theorem finD_int {st : Store} {b : Int} : finD st (.int b) st = .ok (.int b) st := finD_id rfl
@[simp] theorem finD_str {st : Store} {b : Str} : finD st (.str b) st = .ok (.str b) st := finD_id rfl
@[simp] theorem finD_non {st : Store} : finD st .non st = .ok .non st := finD_id rfl
@[simp] theorem finD_blA {st j : Store} {b : Bool} : finD st (.bl b) (st ++ j) = .ok (.bl b) st := finD_app rfl
@[simp] theorem finD_intA {st j : Store} {b : Int} : finD st (.int b) (st ++ j) = .ok (.int b) st := finD_app rfl
@[simp] theorem finD_strA {st j : Store} {b : Str} : finD st (.str b) (st ++ j) = .ok (.str b) st := finD_app rfl
@[simp] theorem finD_nonA {st j : Store} : finD st .non (st ++ j) = .ok .non st := finD_app rfl
theorem dNe_int {st : Store} {a b : Int} : dNe (.int a) (.int b) st = .ok (.bl (!decide (a = b))) st := rfl
theorem dEq_int {st : Store} {a b : Int} : dEq (.int a) (.int b) st = .ok (.bl (decide (a = b))) st := rfl
theorem purL_ints {is : List Int} : purL (is.map D.int) = true := purL_all fun d hd => by
  obtain ⟨i, _, rfl⟩ := List.mem_map.mp hd
  rfl
@[simp] theorem finD_ints {st : Store} {is : List Int} : finD st (.tup (is.map .int)) st = .ok (.tup (is.map .int)) st := finD_id purL_ints
@[simp] theorem finD_intsA {st j : Store} {is : List Int} : finD st (.tup (is.map .int)) (st ++ j) = .ok (.tup (is.map .int)) st := finD_app purL_ints
/-- what a number makes due more -/
def wd (i : Int) : Int := if i = -2 then 1 else if i = -1 then 0 else -1
theorem get_wd {ex : EE} {σ : Slots} {st : Store} {i : Int} (h : ∀ st', ex σ st' = .ok (.int i) st') :
    eGet2 (eDisp [((eUn dNeg (eC (.int 2))), (eC (.int 1))), ((eUn dNeg (eC (.int 1))), (eC (.int 0)))]) ex (eUn dNeg (eC (.int 1))) σ st = .ok (.int (wd i)) (st ++ [.dic [(.inl (-2), .int 1), (.inl (-1), .int 0)]]) := by
  have e1 : eDisp [((eUn dNeg (eC (.int 2))), (eC (.int 1))), ((eUn dNeg (eC (.int 1))), (eC (.int 0)))] σ st = .ok (.own st.length) (st ++ [.dic [(.inl (-2), .int 1), (.inl (-1), .int 0)]]) := by
    simp [eDisp, ePairs, keysOf, keyOf, mergeD, putD]
  unfold eGet2
  rw [e1]
  have e2 : dicOf (.own st.length) (st ++ [Cell.dic [(.inl (-2), .int 1), (.inl (-1), .int 0)]]) = some [(.inl (-2), .int 1), (.inl (-1), .int 0)] := by simp [dicOf]
  simp only [R.bind_ok, e2, h, eUn, eC, dNeg, keyOf, Option.isSome_some, if_true]
  congr 1
  unfold valD wd
  by_cases h2 : i = -2
  · subst h2; rfl
  · by_cases h1 : i = -1
    · subst h1; rfl
    · rw [if_neg h2, if_neg h1]
      have a2 : ¬ ((Sum.inl (-2) : Key) = Sum.inl i) := fun e => h2 (Sum.inl.inj e).symm
      have a1 : ¬ ((Sum.inl (-1) : Key) = Sum.inl i) := fun e => h1 (Sum.inl.inj e).symm
      simp [List.find?, a1, a2]
/-- a loop that keeps a state or answers False -/
def foldO {α : Type} (F : D → α → Option α) : List D → α → Option α
  | [], a => some a
  | d :: ds, a => match F d a with
    | some a' => foldO F ds a'
    | none => none
theorem foldLoop {α : Type} {g : GE} {body : SE} {F : D → α → Option α} {σf : α → Option D → Slots} {ds : List D} {a : α} {x : Option D} {st : Store} {r : RS} (hr : forL g body ds (σf a x) st = r)
    (h : ∀ d ∈ ds, ∀ a x j, ∃ σ1, g d (σf a x) = some σ1 ∧ (match F d a with
      | some a' => ∃ x' j', body σ1 (st ++ j) = .nx (σf a' x') (st ++ j')
      | none => ∃ j', body σ1 (st ++ j) = .ret (.bl false) (st ++ j'))) :
    match foldO F ds a with
    | some a' => ∃ x' j', r = .nx (σf a' x') (st ++ j')
    | none => ∃ j', r = .ret (.bl false) (st ++ j') := by
  have key : ∀ (ds : List D) (a : α) (x : Option D) (j : Store), (∀ d ∈ ds, ∀ a x j, ∃ σ1, g d (σf a x) = some σ1 ∧ (match F d a with
      | some a' => ∃ x' j', body σ1 (st ++ j) = .nx (σf a' x') (st ++ j')
      | none => ∃ j', body σ1 (st ++ j) = .ret (.bl false) (st ++ j'))) → match foldO F ds a with
    | some a' => ∃ x' j', forL g body ds (σf a x) (st ++ j) = .nx (σf a' x') (st ++ j')
    | none => ∃ j', forL g body ds (σf a x) (st ++ j) = .ret (.bl false) (st ++ j') := by
    intro ds
    induction ds with
    | nil => exact fun a x j _ => ⟨x, j, rfl⟩
    | cons d ds ih =>
      intro a x j h
      obtain ⟨σ1, h1, h2⟩ := h d List.mem_cons_self a x j
      have ih := fun a x j => ih a x j fun e he => h e (List.mem_cons_of_mem _ he)
      unfold foldO forL
      rw [h1]
      cases hF : F d a with
      | none =>
        rw [hF] at h2
        obtain ⟨j', e⟩ := h2
        dsimp only
        rw [e]
        exact ⟨j', rfl⟩
      | some a' =>
        rw [hF] at h2
        obtain ⟨x', j', e⟩ := h2
        dsimp only
        rw [e]
        exact ih a' x' j'
  have := key ds a x [] h
  rw [List.append_nil, hr] at this
  exact this
theorem foldO_all {p : D → Bool} : ∀ {ds : List D}, foldO (fun d (_ : Unit) => if p d = true then some () else none) ds () = if ds.all p = true then some () else none
  | [] => rfl
  | d :: ds => by
    unfold foldO
    cases h : p d with
    | true => simp [h, foldO_all]
    | false => simp [h]
/-- how much is due behind some numbers; none: nothing was due before one of them -/
def dueR : List Int → Int → Option Int
  | [], a => some a
  | i :: is, a => if a = 0 then none else dueR is (a + wd i)
def dueOk (is : List Int) (a : Int) : Bool := decide (dueR is a = some 0)
theorem dueR_app : ∀ {is js : List Int} {a : Int}, dueR (is ++ js) a = (dueR is a).bind (dueR js)
  | [], _, _ => rfl
  | i :: is, js, a => by
    show (if a = 0 then none else dueR (is ++ js) (a + wd i)) = (if a = 0 then none else dueR is (a + wd i)).bind (dueR js)
    split
    · rfl
    · exact dueR_app
def okN (i : Int) : Bool := decide (-2 ≤ i) && decide (i ≤ 9999)
def termP (is : List Int) : Bool := !is.isEmpty && decide (is.length ≤ 20000) && is.all okN && dueOk is 1
def termD : D → Bool
  | .tup ds => match intsOf ds with
    | some is => termP is
    | none => false
  | _ => false
theorem termD_not {ds : List D} (h : ds.all isI = false) : termD (.tup ds) = false := by
  unfold termD
  cases e : intsOf ds with
  | none => dsimp only; rw [e]
  | some is =>
    rw [intsOf_eq e, all_map] at h
    cases h
theorem termD_ints {is : List Int} : termD (.tup (is.map .int)) = termP is := by
  unfold termD
  dsimp only
  rw [intsOf_mapI]
def okD : D → Bool
  | .int i => okN i
  | _ => false
theorem okD_all {ds : List D} (h : ds.all okD = true) : ∃ is : List Int, ds = is.map D.int ∧ is.all okN = true := by
  have e1 : ds.all isI = true := by
    rw [List.all_eq_true] at h ⊢
    intro d hd
    have := h d hd
    cases d <;> first | rfl | cases this
  obtain ⟨is, _, rfl⟩ := intsOf_all e1
  refine ⟨is, rfl, ?_⟩
  rw [List.all_map] at h
  exact h
theorem termD_no {ds : List D} (h : ds.all okD = false) : termD (.tup ds) = false := by
  unfold termD
  dsimp only
  split
  · rename_i is his
    have := intsOf_eq his
    subst this
    have e2 : is.all okN = false := by
      rw [List.all_map] at h
      exact h
    unfold termP
    rw [e2]
    simp
  · rfl
theorem termD_long {ds : List D} (h : 20000 < ds.length ∨ ds = []) : termD (.tup ds) = false := by
  unfold termD
  dsimp only
  split
  · rename_i is his
    have := intsOf_eq his
    subst this
    rw [List.length_map] at h
    unfold termP
    rcases h with h | h
    · have : decide (is.length ≤ 20000) = false := decide_eq_false (by omega)
      rw [this]
      simp
    · have : is = [] := List.map_eq_nil_iff.mp h
      subst this
      rfl
  · rfl
theorem termP_of {is : List Int} (h0 : is ≠ []) (h1 : is.length ≤ 20000) (h2 : is.all okN = true) : termP is = dueOk is 1 := by
  unfold termP
  have : decide (is.length ≤ 20000) = true := decide_eq_true h1
  rw [this, h2]
  cases is with
  | nil => exact absurd rfl h0
  | cons i is => simp
def dueF (d : D) (a : Int) : Option Int := match d with
  | .int i => if a = 0 then none else some (a + wd i)
  | _ => none
theorem foldO_due : ∀ {is : List Int} {a : Int}, foldO dueF (is.map D.int) a = dueR is a
  | [], _ => rfl
  | i :: is, a => by
    rw [List.map_cons]
    unfold foldO dueR dueF
    dsimp only
    by_cases h : a = 0
    · rw [if_pos h, if_pos h]
    · rw [if_neg h, if_neg h]
      exact foldO_due
theorem wd_ge {i : Int} : -1 ≤ wd i := by
  unfold wd
  split
  · omega
  · split <;> omega
/-! ### surroundings -/
def zh (i : Int) : Int := if i = -3 then 0 else i
def aw (i : Int) : Int := if i = -2 then 1 else if 0 ≤ i ∨ i = -3 then -1 else 0
def okS (i : Int) : Bool := decide (-3 ≤ i) && decide (i ≤ 9999)
def surrF (d : D) (p : Int × Int) : Option (Int × Int) := match d with
  | .int i => if i < -3 ∨ 9999 < i ∨ p.2 = 0 then none else some (p.1 + (if i = -3 then 1 else 0), p.2 + aw i)
  | _ => none
def holes (is : List Int) : Nat := is.countP fun i => i == -3
def surrP (is : List Int) : Bool := decide (is.length ≤ 200) && (decide (holes is = 1) && (is.all okS && dueOk (is.map zh) 1))
def surrD : D → Bool
  | .tup ds => match intsOf ds with
    | some is => surrP is
    | none => false
  | _ => false
theorem surrD_not {ds : List D} (h : ds.all isI = false) : surrD (.tup ds) = false := by
  unfold surrD
  cases e : intsOf ds with
  | none => dsimp only; rw [e]
  | some is =>
    rw [intsOf_eq e, all_map] at h
    cases h
theorem surrD_ints {is : List Int} : surrD (.tup (is.map .int)) = surrP is := by
  unfold surrD
  dsimp only
  rw [intsOf_mapI]
theorem aw_zh {i : Int} (h : okS i = true) : aw i = wd (zh i) := by
  simp [okS] at h
  unfold aw wd zh
  by_cases h3 : i = -3
  · subst h3; rfl
  · by_cases h2 : i = -2
    · subst h2; rfl
    · by_cases h1 : i = -1
      · subst h1; rfl
      · rw [if_neg h2, if_pos (by omega), if_neg h3, if_neg h2, if_neg h1]
theorem foldO_surr : ∀ {is : List Int} {h a : Int}, foldO surrF (is.map D.int) (h, a) = if is.all okS = true then (dueR (is.map zh) a).map (fun a' => (h + (holes is : Int), a')) else none
  | [], h, a => by simp [foldO, dueR, holes]
  | i :: is, h, a => by
    rw [List.map_cons, List.map_cons]
    have u2 : dueR (zh i :: is.map zh) a = if a = 0 then none else dueR (is.map zh) (a + wd (zh i)) := rfl
    have u3 : surrF (.int i) (h, a) = if i < -3 ∨ 9999 < i ∨ a = 0 then none else some (h + (if i = -3 then 1 else 0), a + aw i) := rfl
    rw [foldO, u2, u3]
    cases hi : okS i with
    | false =>
      have : i < -3 ∨ 9999 < i ∨ a = 0 := by
        simp [okS] at hi
        omega
      rw [if_pos this]
      simp [hi]
    | true =>
      by_cases ha : a = 0
      · rw [if_pos (.inr (.inr ha)), if_pos ha]
        simp
      · have : ¬ (i < -3 ∨ 9999 < i ∨ a = 0) := by
          simp [okS] at hi
          omega
        rw [if_neg this, if_neg ha]
        dsimp only
        rw [foldO_surr, aw_zh hi]
        simp only [List.all_cons, hi, Bool.true_and]
        congr 1
        congr 1
        funext a'
        congr 1
        unfold holes
        rw [List.countP_cons]
        by_cases h3 : i = -3
        · subst h3
          simp
          omega
        · simp [h3]
theorem foldO_surr_no : ∀ {ds : List D} {p : Int × Int}, ds.all isI = false → foldO surrF ds p = none
  | [], _, h => by cases h
  | d :: ds, p, h => by
    rw [foldO]
    cases hi : isI d with
    | false =>
      have u : surrF d p = none := by cases d <;> first | rfl | cases hi
      rw [u]
    | true =>
      rw [List.all_cons, hi, Bool.true_and] at h
      cases surrF d p with
      | none => rfl
      | some q => exact foldO_surr_no h
theorem holes_D {is : List Int} : (is.map D.int).countP (fun y => eqF y (.int (-3))) = holes is := by
  rw [List.countP_map]
  rfl
theorem flat_ints {is : List Int} : (is.map D.int).all flatD = true := by simp [flatD]
theorem ix_hole : ∀ {is : List Int}, holes is = 1 → ∃ j, ixOf (.int (-3)) (is.map D.int) = some j ∧ j < is.length ∧ is.take j ++ 0 :: is.drop (j + 1) = is.map zh
  | [], h => by cases h
  | i :: is, h => by
    by_cases h3 : i = -3
    · subst h3
      refine ⟨0, rfl, Nat.succ_pos _, ?_⟩
      have h0 : holes is = 0 := by
        unfold holes at h ⊢
        rw [List.countP_cons] at h
        have q : ((-3 : Int) == -3) = true := rfl
        rw [q, if_pos rfl] at h
        omega
      show 0 :: is = zh (-3) :: is.map zh
      congr 1
      have : ∀ i ∈ is, zh i = i := fun i hi => by
        unfold zh
        rw [if_neg]
        intro e
        unfold holes at h0
        rw [List.countP_eq_zero] at h0
        exact h0 i hi (by rw [e]; rfl)
      exact ((List.map_congr_left this).trans (List.map_id' is)).symm
    · have h0 : holes is = 1 := by
        unfold holes at h ⊢
        rw [List.countP_cons] at h
        simpa [h3] using h
      obtain ⟨j, h1, h2, e⟩ := ix_hole h0
      refine ⟨j + 1, ?_, Nat.succ_lt_succ h2, ?_⟩
      · rw [List.map_cons]
        unfold ixOf
        rw [h1]
        have : eqF (.int i) (.int (-3)) = false := by
          show (i == -3) = false
          simpa using h3
        rw [if_neg (by rw [this]; exact Bool.false_ne_true)]
      · show i :: (is.take j ++ 0 :: is.drop (j + 1)) = zh i :: is.map zh
        rw [e]
        unfold zh
        rw [if_neg h3]
theorem surr_term {is : List Int} (h0 : holes is = 1) (h1 : is.length ≤ 200) : termP (is.map zh) = (is.all okS && dueOk (is.map zh) 1) := by
  have hne : is.map zh ≠ [] := by
    intro e
    rw [List.map_eq_nil_iff] at e
    subst e
    cases h0
  have ok : (is.map zh).all okN = is.all okS := by
    rw [List.all_map]
    congr 1
    funext i
    show okN (zh i) = okS i
    unfold zh okN okS
    by_cases h3 : i = -3
    · subst h3; rfl
    · rw [if_neg h3]
      congr 1
      rw [decide_eq_decide]
      omega
  cases e : is.all okS with
  | false =>
    unfold termP
    rw [ok, e]
    simp
  | true =>
    rw [e] at ok
    rw [termP_of hne (by rw [List.length_map]; omega) ok]
    rfl
theorem cutD_to {ds : List D} {j : Nat} : cutD ds none (some (j : Int)) = ds.take j := by
  unfold cutD
  rw [HT.sIx_none, HT.sIx_nat, List.drop_zero, Nat.sub_zero, Nat.min_def]
  split
  · rfl
  · rw [List.take_of_length_le (Nat.le_refl _), List.take_of_length_le (by omega)]
theorem cutD_from {ds : List D} {j : Nat} : cutD ds (some (j : Int)) none = ds.drop j := by
  unfold cutD
  rw [HT.sIx_none, HT.sIx_nat, Nat.min_def]
  split
  · rw [List.take_of_length_le (by rw [List.length_drop]; omega)]
  · rw [List.drop_eq_nil_of_le (Nat.le_refl _), List.drop_eq_nil_of_le (by omega)]
    simp
end Fx

set_option Elab.async false
set_option linter.all false
set_option maxRecDepth 100000
set_option maxHeartbeats 400000
/-! Mx: a def that draws of a purse -/
namespace Fx
open PySem PySem.Spec PyProof.Rows L2
theorem sSeq_nx {a b : SE} {σ σ' : Slots} {st st' : Store} (h : a σ st = .nx σ' st') : sSeq a b σ st = b σ' st' := by
  unfold sSeq
  rw [h]
theorem sSeq_eq {a b : SE} {σ : Slots} {st : Store} : sSeq a b σ st = match a σ st with
    | .nx σ' st' => b σ' st'
    | r => r := rfl
theorem sIf_t {c : ET} {a b : SE} {σ : Slots} {st st' : Store} (h : c σ st = .ok true st') : sIf c a b σ st = a σ st' := by
  unfold sIf lift
  rw [h]
  rfl
theorem sIf_f {c : ET} {a b : SE} {σ : Slots} {st st' : Store} (h : c σ st = .ok false st') : sIf c a b σ st = b σ st' := by
  unfold sIf lift
  rw [h]
  rfl
theorem sSeq_ret {a b : SE} {σ : Slots} {st st' : Store} {d : D} (h : a σ st = .ret d st') : sSeq a b σ st = .ret d st' := by
  unfold sSeq
  rw [h]
theorem purse_pure {st : Store} {k n : Nat} (h : Purse st k n) : ∀ c, st[k]? = some c → pureC c = true := fun c hc => by
  obtain ⟨_, _, _, _, _, _, _, _, e⟩ := h
  rw [e] at hc
  cases hc
  rfl
/-- s: the store st with a purse k drawn on, and more behind it -/
structure SS (st : Store) (k n : Nat) (s : Store) : Prop where
  len : st.length ≤ s.length
  oth : ∀ j, j < st.length → j ≠ k → s[j]? = st[j]?
  pu : Purse s k n
  lt : k < st.length
theorem SS.start {st : Store} {k n : Nat} (h : Purse st k n) : SS st k n st := ⟨Nat.le_refl _, fun _ _ _ => rfl, h, by
  obtain ⟨_, _, _, _, _, _, _, _, e⟩ := h
  exact (List.getElem?_eq_some_iff.mp e).1⟩
theorem purse_at {s s' : Store} {k n : Nat} (h : Purse s k n) (e : s'[k]? = s[k]?) : Purse s' k n := by
  obtain ⟨a, b, c, h1, h2, h3, h4, h5, h6⟩ := h
  exact ⟨a, b, c, h1, h2, h3, h4, h5, by rw [e]; exact h6⟩
theorem Purse.mono {s : Store} {k n m : Nat} (h : Purse s k n) (e : n ≤ m) : Purse s k m := by
  obtain ⟨a, b, c, h1, h2, h3, h4, h5, h6⟩ := h
  exact ⟨a, b, c, h1, h2, h3, h4, by omega, h6⟩
section
variable {st s s' : Store} {k n m : Nat}
theorem SS.app (h : SS st k n s) (j : Store) : SS st k n (s ++ j) := by
  have hl := h.len
  have hk := h.lt
  exact ⟨by rw [List.length_append]; omega, fun i hi hk => by rw [List.getElem?_append_left (by omega)]; exact h.oth i hi hk, purse_at h.pu (List.getElem?_append_left (by omega)), hk⟩
theorem SS.set (h : SS st k n s) {x : Nat} (hx : st.length ≤ x) (c : Cell) : SS st k n (s.set x c) := by
  have hk := h.lt
  exact ⟨by rw [List.length_set]; exact h.len, fun i hi hk => by rw [List.getElem?_set_ne (by omega)]; exact h.oth i hi hk, purse_at h.pu (List.getElem?_set_ne (by omega)), hk⟩
theorem SS.chg (h : SS st k n s) (c : Chg k s s') (p : Purse s' k m) : SS st k m s' :=
  ⟨by rw [c.len]; exact h.len, fun i hi hk => (c.oth i hk).trans (h.oth i hi hk), p, h.lt⟩
theorem SS.ne (h : SS st k n s) {x : Nat} (hx : st.length ≤ x) : x ≠ k := by have := h.lt; omega
theorem SS.take (h : SS st k n s) : Chg k st (s.take st.length) ∧ Purse (s.take st.length) k n := by
  have e : ∀ i, i < st.length → (s.take st.length)[i]? = s[i]? := fun i hi => List.getElem?_take_of_lt hi
  have hp := purse_at h.pu (e k h.lt)
  refine ⟨⟨by rw [List.length_take]; have := h.len; omega, fun j hj => ?_, purse_pure hp⟩, hp⟩
  by_cases hl : j < st.length
  · rw [e j hl]
    exact h.oth j hl hj
  · rw [List.getElem?_eq_none (by rw [List.length_take]; omega), List.getElem?_eq_none (by omega)]
theorem SS.keeps (h : SS st k n s) : keepsB st.length st s := fun i hi => by
  by_cases e : i = k
  · subst e
    have hl : i < s.length := by have := h.len; omega
    exact .inr ⟨s[i], List.getElem?_eq_getElem hl, purse_pure h.pu _ (List.getElem?_eq_getElem hl)⟩
  · exact .inl (h.oth i hi e)
theorem SS.fin (h : SS st k n s) {d d' : D} (f : frzT st.length s d = some d') : finD st d s = .ok d' (s.take st.length) := by
  unfold finD
  rw [if_pos h.keeps, f]
theorem SS.finP (h : SS st k n s) {d : D} (f : pureD d = true) : finD st d s = .ok d (s.take st.length) := h.fin (by unfold frzT; rw [if_pos f])
end
theorem dNe_nilL {s : Store} {a b : Nat} {ws : List Int} (ha : s[a]? = some (.lst (ws.map .int))) (hb : s[b]? = some (.lst [])) : dNe (.own a) (.own b) s = .ok (.bl (!ws.isEmpty)) s := by
  have e1 : pyOf (.own a) s = some (.list (ws.map .int)) := by
    unfold pyOf
    simp only [ha, pys_ints]
  have e2 : pyOf (.own b) s = some (.list []) := by
    unfold pyOf
    simp only [hb]
    unfold pys
    rfl
  have s1 : SeqAt.shaped (.list (ws.map .int)) = true := by
    unfold SeqAt.shaped PyData.canLay0 PyData.depth
    rw [lay_ints.1, lay_ints.2]
    rfl
  have s2 : SeqAt.shaped (.list []) = true := by
    unfold SeqAt.shaped PyData.canLay0 PyData.depth PyData.canLayAll0 PyData.depthAll
    rfl
  have q : PyData.eqv (.list (ws.map .int)) (.list []) = ws.isEmpty := by
    unfold PyData.eqv
    cases ws <;> (unfold PyData.eqvAll; rfl)
  unfold dNe
  simp only [e1, e2, s1, s2, and_self, if_true, q]
end Fx

set_option Elab.async false
set_option linter.all false
set_option maxRecDepth 100000
set_option maxHeartbeats 400000
/-! Mx: texts -/
namespace Fx
open PySem PySem.Spec PyProof.Rows L2
theorem strN : ∀ f : Fin 60, (Str.ofString (toString ((f : Nat) : Int))).length ≤ 40 ∧ ∀ c ∈ (Str.ofString (toString ((f : Nat) : Int))).cps.toList, c < 0x110000 := by decide +kernel
def okT (w : Nat) (z : Str) : Prop := z.length ≤ w ∧ ∀ c ∈ z.cps.toList, c < 0x110000
theorem Pl.str {n w : Nat} {z : Str} (h : okT w z) : Pl n w (.str z) := by cases n <;> (unfold Pl; exact h)
theorem Pl.str' {n w : Nat} {z : Str} (h : Pl n w (.str z)) : okT w z := by cases n <;> (unfold Pl at h; exact h)
theorem len_app {x y : Str} : (x ++ y).length = x.length + y.length := by
  show (x.cps ++ y.cps).size = _
  rw [Array.size_append]
  rfl
theorem mem_app {x y : Str} {c : Nat} : c ∈ (x ++ y).cps.toList ↔ c ∈ x.cps.toList ∨ c ∈ y.cps.toList := by
  show c ∈ (x.cps ++ y.cps).toList ↔ _
  rw [Array.toList_append, List.mem_append]
theorem len_to {z : Str} {j : Nat} : (cutS z none (some (j : Int))).length = min j z.length := by
  unfold cutS
  show ((List.take _ _).toArray).size = _
  rw [HT.sIx_none, HT.sIx_nat]
  simp [Str.length]
theorem len_from {z : Str} {j : Nat} : (cutS z (some (j : Int)) none).length = z.length - j := by
  unfold cutS
  show ((List.take _ _).toArray).size = _
  rw [HT.sIx_none, HT.sIx_nat]
  simp [Str.length]
  omega
theorem mem_cut {z : Str} {lo hi : Option Int} {c : Nat} (h : c ∈ (cutS z lo hi).cps.toList) : c ∈ z.cps.toList := by
  unfold cutS at h
  rw [List.toList_toArray] at h
  exact List.mem_of_mem_drop (List.mem_of_mem_take h)
theorem okT_cat {w : Nat} {z c : Str} {i j : Nat} (h : okT w z) (hc : okT 1 c) (hj : i ≤ j) : okT (w + 1) (cutS z none (some (i : Int)) ++ c ++ cutS z (some (j : Int)) none) := by
  refine ⟨?_, fun x hx => ?_⟩
  · rw [len_app, len_app, len_to, len_from]
    have := h.1
    have := hc.1
    omega
  · rcases mem_app.mp hx with hx | hx
    · rcases mem_app.mp hx with hx | hx
      · exact h.2 x (mem_cut hx)
      · exact hc.2 x hx
    · exact h.2 x (mem_cut hx)
theorem okT_cut {w : Nat} {z : Str} {i j : Nat} (h : okT w z) (hj : i ≤ j) : okT (w + 1) (cutS z none (some (i : Int)) ++ cutS z (some (j : Int)) none) := by
  refine ⟨?_, fun x hx => ?_⟩
  · rw [len_app, len_to, len_from]
    have := h.1
    omega
  · rcases mem_app.mp hx with hx | hx
    · exact h.2 x (mem_cut hx)
    · exact h.2 x (mem_cut hx)
theorem alpha37 : ∀ j : Fin 37, ∃ c, ("abcdefghijklmnopqrstuvwxyz0123456789-" : Str).cps.toList[(j : Nat)]? = some c ∧ c < 0x110000 := by
  have h : ("abcdefghijklmnopqrstuvwxyz0123456789-" : Str).cps.toList.length = 37 ∧ ∀ c ∈ ("abcdefghijklmnopqrstuvwxyz0123456789-" : Str).cps.toList, c < 0x110000 := by decide +kernel
  intro j
  have hj : (j : Nat) < ("abcdefghijklmnopqrstuvwxyz0123456789-" : Str).cps.toList.length := by rw [h.1]; exact j.2
  exact ⟨_, List.getElem?_eq_getElem hj, h.2 _ (List.getElem_mem hj)⟩
theorem sign_ok {v : Int} {st : Store} (h0 : 0 ≤ v) (h1 : v < 37) : ∃ z, dIx (.str "abcdefghijklmnopqrstuvwxyz0123456789-") (.int v) st = .ok (.str z) st ∧ okT 1 z := by
  obtain ⟨j, rfl⟩ : ∃ j : Nat, v = j := ⟨v.toNat, by omega⟩
  obtain ⟨c, h2, h3⟩ := alpha37 ⟨j, by omega⟩
  have l : ("abcdefghijklmnopqrstuvwxyz0123456789-" : Str).cps.toList.length = 37 := by decide +kernel
  have l2 : ("abcdefghijklmnopqrstuvwxyz0123456789-" : Str).length ≤ 16777216 := by decide +kernel
  refine ⟨⟨#[c]⟩, ?_, ⟨by show (1 : Nat) ≤ 1; omega, fun x hx => ?_⟩⟩
  · unfold dIx
    dsimp only
    rw [if_pos l2]
    have : atI ("abcdefghijklmnopqrstuvwxyz0123456789-" : Str).cps.toList (j : Int) = some c := by
      unfold atI ixN
      rw [l, if_pos (by omega), if_pos (by omega)]
      simpa using h2
    rw [this]
  · have : x = c := by simpa using hx
    rw [this]
    exact h3
theorem Pl.lstI {n w : Nat} {ds : List D} (h : ds.length ≤ w) (k : ∀ d ∈ ds, Pl n w d) : Pl (n + 1) w (.lst ds) := by unfold Pl; exact ⟨h, k⟩
theorem Pl.tupI {n w : Nat} {ds : List D} (h : ds.length ≤ w) (k : ∀ d ∈ ds, Pl n w d) : Pl (n + 1) w (.tup ds) := by unfold Pl; exact ⟨h, k⟩
end Fx

set_option Elab.async false
set_option linter.all false
set_option maxRecDepth 100000
set_option maxHeartbeats 4000000
namespace K57
open PySem PySem.Spec PyProof.Rows L2 Fx
theorem take_ok {st : Store} {k n : Nat} {many : Int} (h : Purse st k n) (hn : n < 1000000) (h1 : 0 < many) (h2 : many < 1000000) :
    ∃ v st', f_law_take [.own k, .int many] st = .ok (.int v) st' ∧ 0 ≤ v ∧ v < many ∧ Chg k st st' ∧ Purse st' k (n + 1) := by
  obtain ⟨a, b, c, ha, hb, hb2, hc, hcn, hk⟩ := h
  have hl : k < st.length := (List.getElem?_eq_some_iff.mp hk).1
  by_cases h0 : 0 < a
  · refine ⟨a % many, st.set k (.lst [.int (a / many), .int b, .int c]), ?_, Int.emod_nonneg _ (by omega), Int.emod_lt_of_pos _ h1, Chg.set rfl, a / many, b, c, Int.ediv_nonneg ha (by omega), hb, hb2, hc, by omega, List.getElem?_set_self hl⟩
    have := @finD_chg0 k st (st.set k (.lst [.int (a / many), .int b, .int c])) (.int (a % many)) (Chg.set rfl) rfl
    have hm : many < 1073741824 := by omega
    simp [f_law_take, runF, b_law_take, hk, h0, h1, hm, this]
  · have t0 : 0 < c + 1 := by omega
    have t1 : c + 1 ≤ 1000000 := by omega
    have m0 : (c + 1) * (c + 1) ≤ 1000000 * 1000000 := Int.mul_le_mul t1 t1 (by omega) (by omega)
    have m1 : 0 ≤ (c + 1) * (c + 1) := Int.mul_nonneg (by omega) (by omega)
    have m2 : 48271 * (c + 1) * (c + 1) = 48271 * ((c + 1) * (c + 1)) := Int.mul_assoc _ _ _
    have hx0 : 0 ≤ (b + 48271 * (c + 1) * (c + 1) + 1) ^ 5 % 2147483647 := Int.emod_nonneg _ (by omega)
    have hx1 : (b + 48271 * (c + 1) * (c + 1) + 1) ^ 5 % 2147483647 < 2147483647 := Int.emod_lt_of_pos _ (by omega)
    have p1 : -18446744073709551616 < b + 48271 * (c + 1) * (c + 1) + 1 := by rw [m2]; omega
    have p2 : b + 48271 * (c + 1) * (c + 1) + 1 < 18446744073709551616 := by rw [m2]; omega
    generalize hone : (b + 48271 * (c + 1) * (c + 1) + 1) ^ 5 % 2147483647 = one at hx0 hx1
    have n0 : one * (2 * (c + 1) + 30011) ≤ 2147483647 * 2030011 := Int.mul_le_mul (by omega) (by omega) (by omega) (by omega)
    have n1 : 0 ≤ one * (2 * (c + 1) + 30011) := Int.mul_nonneg (by omega) (by omega)
    have q1 : -18446744073709551616 < one * (2 * (c + 1) + 30011) + (c + 1) := by omega
    have q2 : one * (2 * (c + 1) + 30011) + (c + 1) < 18446744073709551616 := by omega
    have r1 : -18446744073709551616 < c + 1 := by omega
    have r2 : c + 1 < 18446744073709551616 := by omega
    have o1 : -18446744073709551616 < one := by omega
    have o2 : one < 18446744073709551616 := by omega
    refine ⟨(one * 998244353 + (one * (2 * (c + 1) + 30011) + (c + 1)) ^ 3 % 998244353) / 1009 % many, st.set k (.lst [.int a, .int b, .int (c + 1)]), ?_, Int.emod_nonneg _ (by omega), Int.emod_lt_of_pos _ h1, Chg.set rfl, a, b, c + 1, ha, hb, hb2, by omega, by omega, List.getElem?_set_self hl⟩
    have := fun v : Int => @finD_chg0 k st (st.set k (.lst [.int a, .int b, .int (c + 1)])) (.int v) (Chg.set rfl) rfl
    have hs : ∀ c : Cell, (st.set k c)[k]? = some c := fun c => List.getElem?_set_self hl
    simp [f_law_take, runF, b_law_take, hk, h0, h1, hs, p1, p2, hone, q1, q2, r1, r2, o1, o2, this]
theorem whole_ok {n w : Nat} {d : D} {st : Store} (h : Pl n w d) : f_is_whole [d] st = .ok (.bl (isI d)) st := by
  unfold f_is_whole runF b_is_whole
  cases d with
  | non => simp [isI]
  | bl _ => simp [isI]
  | int _ => simp [isI]
  | str _ => simp [isI]
  | tup _ => simp [isI]
  | lst _ => simp [isI]
  | rol _ => unfold Pl at h; exact h.elim
  | own _ => unfold Pl at h; exact h.elim
  | glo _ => unfold Pl at h; exact h.elim
theorem more_due_ok {i : Int} {st : Store} : f_more_due [.int i] st = .ok (.int (wd i)) st := by
  unfold f_more_due runF b_more_due wd
  by_cases h2 : i = -2
  · subst h2; simp [dEq]
  · by_cases h1 : i = -1
    · subst h1; simp [dEq]
    · simp [dEq, h1, h2]
theorem is_read_ok {is : List Int} {st : Store} : f_is_read [.tup (is.map .int)] st = .ok (.bl (dueOk is 1)) st := by
  unfold f_is_read runF b_is_read
  simp
  generalize hr : forL _ _ _ _ _ = r
  have L := foldLoop (F := dueF) (σf := fun a x => [some (.tup (is.map .int)), some (.int a), x]) hr fun d hd a x j => by
      obtain ⟨i, _, rfl⟩ := List.mem_map.mp hd
      refine ⟨_, rfl, ?_⟩
      unfold dueF
      by_cases ha : a = 0
      · subst ha
        exact ⟨j, by simp [dEq]⟩
      · simp only [if_neg ha]
        exact ⟨some (.int i), j, by simp [dEq, ha, more_due_ok]⟩
  rw [foldO_due] at L
  unfold dueOk
  cases e : dueR is 1 with
  | none =>
    rw [e] at L
    obtain ⟨j, rfl⟩ := L
    simp
  | some a =>
    rw [e] at L
    obtain ⟨x, j, rfl⟩ := L
    simp [dEq]
theorem is_term_ok {n w : Nat} {d : D} {st : Store} (h : Pl n w d) : f_is_term [d] st = .ok (.bl (termD d)) st := by
  rcases h.isTy (st := st) with ⟨e, ds, rfl⟩ | ⟨e, ds, rfl⟩ | ⟨e, ds, rfl⟩ | ⟨e, ds, rfl⟩ | ⟨e, ds, rfl⟩ | ⟨e, rfl⟩
  · have hd : ∀ d ∈ ds, Pl (n - 1) w d := by
      cases n with
      | zero => unfold Pl at h; exact h.elim
      | succ n => unfold Pl at h; exact h.2
    by_cases h0 : ds.length = 0
    · have : ds = [] := List.length_eq_zero_iff.mp h0
      subst this
      have q : termD (.tup []) = false := rfl
      simp [f_is_term, runF, b_is_term, dEq, q]
    · by_cases h1 : 20000 < ds.length
      · have q : termD (.tup ds) = false := termD_long (.inl h1)
        have h1' : (20000 : Int) < ds.length := by omega
        simp [f_is_term, runF, b_is_term, dEq, q, h0, h1']
      · have h1' : ¬ (20000 : Int) < ds.length := by omega
        simp [f_is_term, runF, b_is_term, dEq, h0, h1']
        generalize hr : forL _ _ _ _ _ = r
        have L := foldLoop (F := fun d (_ : Unit) => if okD d = true then some () else none) (σf := fun _ x => [some (.tup ds), x]) (a := ()) hr fun d hdm a x j => by
          have hd' := hd d hdm
          refine ⟨_, rfl, ?_⟩
          cases hi : isI d with
          | false =>
            have : okD d = false := by cases d <;> first | rfl | cases hi
            rw [this]
            exact ⟨j, by simp [whole_ok hd', hi]⟩
          | true =>
            cases d <;> first | cases hi | skip
            rename_i i
            by_cases c1 : i < -2
            · have : okD (.int i) = false := by simp [okD, okN]; intros; omega
              rw [this]
              exact ⟨j, by simp [whole_ok hd', isI, c1]⟩
            · by_cases c2 : 9999 < i
              · have : okD (.int i) = false := by simp [okD, okN]; intros; omega
                rw [this]
                exact ⟨j, by simp [whole_ok hd', isI, c1, c2]⟩
              · have : okD (.int i) = true := by simp [okD, okN]; omega
                rw [this]
                exact ⟨some (.int i), j, by simp [whole_ok hd', isI, c1, c2]⟩
        rw [foldO_all] at L
        cases e : ds.all okD with
        | false =>
          rw [e] at L
          obtain ⟨j, rfl⟩ := L
          simp [termD_no e]
        | true =>
          rw [e] at L
          obtain ⟨x, j, rfl⟩ := L
          obtain ⟨is, rfl, h2⟩ := okD_all e
          rw [List.length_map] at h0 h1
          simp [is_read_ok, termD_ints, termP_of (fun q => h0 (by rw [q]; rfl)) (by omega) h2]
  all_goals simp [f_is_term, runF, b_is_term, termD]
theorem wholes_ok {n w : Nat} {ds : List D} {st : Store} (hd : ∀ d ∈ ds, Pl n w d) (hl : ds.length ≤ 16777216) : f_law_wholes [.tup ds] st = .ok (.bl (ds.all isI)) st := by
  unfold f_law_wholes runF b_law_wholes
  simp [eComp, wipeD]
  rw [comp_itD (p := fun _ => true) (F := fun d => .bl (isI d)) (fun d hdm acc => ?_) hl]
  · simp [cAll, blsOf_mapI]
  · have h := hd d hdm
    refine ⟨_, rfl, by simp [noX, tTrue], fun _ => ?_⟩
    cases d with
    | rol _ => unfold Pl at h; exact h.elim
    | own _ => unfold Pl at h; exact h.elim
    | glo _ => unfold Pl at h; exact h.elim
    | _ => simp [noX, isI]
theorem law_is_term_ok {n w : Nat} {d : D} {st : Store} (h : Pl n w d) (hn : n ≤ 64) (hw : w ≤ 16777216) : f_law_is_term [d] st = .ok (.bl (termD d)) st := by
  rcases h.isTy (st := st) with ⟨e, ds, rfl⟩ | ⟨e, ds, rfl⟩ | ⟨e, ds, rfl⟩ | ⟨e, ds, rfl⟩ | ⟨e, ds, rfl⟩ | ⟨e, rfl⟩
  · have hd : ∀ d ∈ ds, Pl (n - 1) w d := by
      cases n with
      | zero => unfold Pl at h; exact h.elim
      | succ n => unfold Pl at h; exact h.2
    have hlen : ds.length ≤ 16777216 := by
      cases n with
      | zero => unfold Pl at h; exact h.elim
      | succ n => unfold Pl at h; omega
    have q0 := fun st => dEq_nil (st := st) h hn
    by_cases h0 : ds = []
    · subst h0
      have q : termD (.tup []) = false := rfl
      simp [f_law_is_term, runF, b_law_is_term, q0, q]
    · have h00 : ds.isEmpty = false := by cases ds; exact absurd rfl h0; rfl
      by_cases h1 : 20000 < ds.length
      · have q : termD (.tup ds) = false := termD_long (.inl h1)
        have h1' : (20000 : Int) < ds.length := by omega
        simp [f_law_is_term, runF, b_law_is_term, q0, q, h00, h1']
      · have h1' : ¬ (20000 : Int) < ds.length := by omega
        have hW := fun st => wholes_ok (st := st) hd hlen
        cases ha : ds.all isI with
        | false =>
          rw [ha] at hW
          simp [f_law_is_term, runF, b_law_is_term, q0, h00, h1', hW, termD_not ha]
        | true =>
          rw [ha] at hW
          obtain ⟨is, his, rfl⟩ := intsOf_all ha
          cases is with
          | nil => exact absurd rfl h0
          | cons x xs =>
            have hmin : (cMin [.tup ((x :: xs).map D.int)] : Store → R D) = fun st => .ok (.int (minI x xs)) st := by
              funext st
              simp [cMin, intsOf_mapI, intsOf]
            have hmax : (cMax [.tup ((x :: xs).map D.int)] : Store → R D) = fun st => .ok (.int (maxI x xs)) st := by
              funext st
              simp [cMax, intsOf_mapI, intsOf]
            rw [List.length_map] at h1 h1'
            generalize hxs : x :: xs = is at *
            have hne : is ≠ [] := by rw [← hxs]; simp
            by_cases c1 : minI x xs < -2
            · have q : is.all okN = false := by
                rw [minI_lt, hxs] at c1
                obtain ⟨y, hy, hy2⟩ := c1
                rw [List.all_eq_false]
                exact ⟨y, hy, by simp [okN]; intros; omega⟩
              have q2 : termP is = false := by unfold termP; rw [q]; simp
              simp [f_law_is_term, runF, b_law_is_term, q0, h00, h1', hW, c1, termD_ints, q2, hmin, -cMin]
            · by_cases c2 : 9999 < maxI x xs
              · have q : is.all okN = false := by
                  rw [maxI_lt, hxs] at c2
                  obtain ⟨y, hy, hy2⟩ := c2
                  rw [List.all_eq_false]
                  exact ⟨y, hy, by simp [okN]; intros; omega⟩
                have q2 : termP is = false := by unfold termP; rw [q]; simp
                simp [f_law_is_term, runF, b_law_is_term, q0, h00, h1', hW, c1, c2, termD_ints, q2, hmin, hmax, -cMin, -cMax]
              · have q : is.all okN = true := by
                  rw [minI_lt, hxs] at c1
                  rw [maxI_lt, hxs] at c2
                  rw [List.all_eq_true]
                  intro y hy
                  unfold okN
                  have a1 : ¬ y < -2 := fun z => c1 ⟨y, hy, z⟩
                  have a2 : ¬ 9999 < y := fun z => c2 ⟨y, hy, z⟩
                  simp
                  omega
                have q2 : termP is = dueOk is 1 := termP_of hne (by omega) q
                simp [f_law_is_term, runF, b_law_is_term, q0, h00, h1', hW, c1, c2, termD_ints, q2, hmin, hmax, -cMin, -cMax]
                generalize hr : forL _ _ _ _ _ = r
                have L := foldLoop (F := dueF) (σf := fun a x => [some (.tup (is.map .int)), some (.int a), x]) hr fun d hd a x j => by
                  obtain ⟨i, _, rfl⟩ := List.mem_map.mp hd
                  refine ⟨_, rfl, ?_⟩
                  unfold dueF
                  by_cases ha : a = 0
                  · subst ha
                    exact ⟨j, by simp [dEq]⟩
                  · simp only [if_neg ha]
                    have g := fun st => get_wd (st := st) (ex := eVar 2) (σ := [some (.tup (is.map .int)), some (.int a), some (.int i)]) (i := i) fun st' => rfl
                    refine ⟨some (.int i), j ++ [.dic [(.inl (-2), .int 1), (.inl (-1), .int 0)]], ?_⟩
                    simp [dEq, ha] at g ⊢
                    simp [g]
                rw [foldO_due] at L
                unfold dueOk
                cases e : dueR is 1 with
                | none =>
                  rw [e] at L
                  obtain ⟨j, rfl⟩ := L
                  simp
                | some a =>
                  rw [e] at L
                  obtain ⟨x, j, rfl⟩ := L
                  simp [dEq]
  all_goals simp [f_law_is_term, runF, b_law_is_term, termD]
theorem aw_ok {i : Int} {st : Store} : f_awaited_behind [.int i] st = .ok (.int (aw i)) st := by
  unfold f_awaited_behind runF b_awaited_behind aw
  by_cases h2 : i = -2
  · subst h2; simp [dEq]
  · by_cases h1 : 0 ≤ i
    · simp [dEq, h1, h2]
    · by_cases h3 : i = -3
      · subst h3; simp [dEq]
      · simp [dEq, h1, h2, h3]
end K57

set_option Elab.async false
set_option linter.all false
set_option maxRecDepth 100000
set_option maxHeartbeats 400000
namespace K57
open PySem PySem.Spec PyProof.Rows L2 Fx
theorem is_surr_ok {n w : Nat} {d : D} {st : Store} (h : Pl n w d) : f_is_surrounding [d] st = .ok (.bl (surrD d)) st := by
  rcases h.isTy (st := st) with ⟨e, ds, rfl⟩ | ⟨e, ds, rfl⟩ | ⟨e, ds, rfl⟩ | ⟨e, ds, rfl⟩ | ⟨e, ds, rfl⟩ | ⟨e, rfl⟩
  · have hd : ∀ d ∈ ds, Pl (n - 1) w d := by
      cases n with
      | zero => unfold Pl at h; exact h.elim
      | succ n => unfold Pl at h; exact h.2
    by_cases h1 : 200 < ds.length
    · have q : surrD (.tup ds) = false := by
        unfold surrD
        dsimp only
        split
        · rename_i is his
          have := intsOf_eq his
          subst this
          rw [List.length_map] at h1
          unfold surrP
          have : decide (is.length ≤ 200) = false := decide_eq_false (by omega)
          rw [this]
          rfl
        · rfl
      have h1' : (200 : Int) < ds.length := by omega
      simp [f_is_surrounding, runF, b_is_surrounding, q, h1']
    · have h1' : ¬ (200 : Int) < ds.length := by omega
      simp [f_is_surrounding, runF, b_is_surrounding, h1']
      generalize hr : forL _ _ _ _ _ = r
      have L := foldLoop (F := surrF) (σf := fun a x => [some (.tup ds), some (.int a.1), some (.int a.2), x]) (a := (0, 1)) hr fun d hdm a x j => by
        have hd' := hd d hdm
        refine ⟨_, rfl, ?_⟩
        cases hi : isI d with
        | false =>
          have u : surrF d a = none := by cases d <;> first | rfl | cases hi
          rw [u]
          exact ⟨j, by simp [whole_ok hd', hi]⟩
        | true =>
          cases d <;> first | cases hi | skip
          rename_i i
          have u3 : surrF (.int i) a = if i < -3 ∨ 9999 < i ∨ a.2 = 0 then none else some (a.1 + (if i = -3 then 1 else 0), a.2 + aw i) := rfl
          rw [u3]
          by_cases c1 : i < -3
          · rw [if_pos (.inl c1)]
            exact ⟨j, by simp [whole_ok hd', isI, c1]⟩
          · by_cases c2 : 9999 < i
            · rw [if_pos (.inr (.inl c2))]
              exact ⟨j, by simp [whole_ok hd', isI, c1, c2]⟩
            · by_cases c3 : a.2 = 0
              · rw [if_pos (.inr (.inr c3))]
                exact ⟨j, by simp [whole_ok hd', isI, c1, c2, c3, dEq]⟩
              · rw [if_neg (by omega)]
                refine ⟨some (.int i), j, ?_⟩
                simp [whole_ok hd', isI, c1, c2, c3, dEq, aw_ok]
      cases ha : ds.all isI with
      | true =>
        obtain ⟨is, _, rfl⟩ := intsOf_all ha
        rw [foldO_surr] at L
        rw [surrD_ints]
        rw [List.length_map] at h1
        have hl : decide (is.length ≤ 200) = true := decide_eq_true (by omega)
        unfold surrP dueOk
        rw [hl]
        cases ea : is.all okS with
        | false =>
          rw [ea] at L
          obtain ⟨j, rfl⟩ := L
          simp
        | true =>
          rw [ea] at L
          cases e : dueR (is.map zh) 1 with
          | none =>
            rw [e] at L
            obtain ⟨j, rfl⟩ := L
            simp
          | some a =>
            rw [e] at L
            obtain ⟨x, j, rfl⟩ := L
            by_cases hh : holes is = 1
            · simp [dEq, hh]
            · have hh' : ¬ ((holes is : Int) = 1) := by omega
              simp [dEq, hh, hh']
      | false =>
        rw [surrD_not ha]
        rw [foldO_surr_no ha] at L
        obtain ⟨j, rfl⟩ := L
        simp
  all_goals simp [f_is_surrounding, runF, b_is_surrounding, surrD]
end K57

set_option Elab.async false
set_option linter.all false
set_option maxRecDepth 100000
set_option maxHeartbeats 400000
namespace K57
open PySem PySem.Spec PyProof.Rows L2 Fx
theorem law_around_ok {n w : Nat} {d : D} {st : Store} (h : Pl n w d) (hn : n ≤ 64) (hw : w ≤ 16777216) : f_law_is_around [d] st = .ok (.bl (surrD d)) st := by
  rcases h.isTy (st := st) with ⟨e, ds, rfl⟩ | ⟨e, ds, rfl⟩ | ⟨e, ds, rfl⟩ | ⟨e, ds, rfl⟩ | ⟨e, ds, rfl⟩ | ⟨e, rfl⟩
  · have hd : ∀ d ∈ ds, Pl (n - 1) w d := by
      cases n with
      | zero => unfold Pl at h; exact h.elim
      | succ n => unfold Pl at h; exact h.2
    have hlen : ds.length ≤ 16777216 := by
      cases n with
      | zero => unfold Pl at h; exact h.elim
      | succ n => unfold Pl at h; omega
    have hW := fun st => wholes_ok (st := st) hd hlen
    by_cases h1 : 200 < ds.length
    · have q : surrD (.tup ds) = false := by
        unfold surrD
        dsimp only
        split
        · rename_i is his
          have := intsOf_eq his
          subst this
          rw [List.length_map] at h1
          unfold surrP
          have : decide (is.length ≤ 200) = false := decide_eq_false (by omega)
          rw [this]
          rfl
        · rfl
      have h1' : (200 : Int) < ds.length := by omega
      simp [f_law_is_around, runF, b_law_is_around, q, h1']
    · have h1' : ¬ (200 : Int) < ds.length := by omega
      cases ha : ds.all isI with
      | false =>
        rw [ha] at hW
        simp [f_law_is_around, runF, b_law_is_around, h1', hW, surrD_not ha]
      | true =>
        rw [ha] at hW
        obtain ⟨is, _, rfl⟩ := intsOf_all ha
        rw [List.length_map] at h1 h1'
        have hl : decide (is.length ≤ 200) = true := decide_eq_true (by omega)
        have hc : ∀ st, mCountT (.tup (is.map D.int)) [.int (-3)] st = .ok (.int (holes is : Nat)) st := fun st => by
          unfold mCountT
          simp only [flat_ints, holes_D, flatD, and_self, if_true]
        rw [surrD_ints]
        by_cases hh : holes is = 1
        · obtain ⟨j, j1, j2, j3⟩ := ix_hole hh
          have hi : ∀ st, mIndexT (.tup (is.map D.int)) [.int (-3)] st = .ok (.int (j : Nat)) st := fun st => by
            unfold mIndexT
            simp only [flat_ints, j1, flatD, and_self, if_true]
          have hcat : (is.map D.int).take j ++ D.int 0 :: (is.map D.int).drop (j + 1) = (is.map zh).map D.int := by
            rw [← j3]
            simp
          have hT := fun st => law_is_term_ok (n := 1) (w := 200) (d := .tup ((is.map zh).map D.int)) (st := st) (Pl.ints (by rw [List.length_map]; omega)) (by omega) (by omega)
          have c1 : ∀ j : Nat, cutD (is.map D.int) none (some (j : Int)) = (is.map D.int).take j := fun j => cutD_to
          have c2 : ∀ j : Nat, cutD (is.map D.int) (some ((j : Int) + 1)) none = (is.map D.int).drop (j + 1) := fun j => by
            have := cutD_from (ds := is.map D.int) (j := j + 1)
            rw [← this]
            rfl
          have lim : min j is.length + 1 ≤ 16777216 := by omega
          have lim2 : min j is.length + 1 + (is.length - (j + 1)) ≤ 16777216 := by omega
          have ee : surrP is = termP (is.map zh) := by
            rw [surr_term hh (by omega)]
            unfold surrP
            rw [hl, hh]
            rfl
          simp [f_law_is_around, runF, b_law_is_around, h1', hW, hc, hh, hi, dNe_int, dSl, c1, c2, lim, lim2]
          rw [hcat]
          simp [-List.map_map, hT, termD_ints, ee]
        · have : surrP is = false := by
            unfold surrP
            have : decide (holes is = 1) = false := decide_eq_false hh
            rw [this]
            simp
          have hh' : ¬ ((holes is : Int) = 1) := by omega
          simp [f_law_is_around, runF, b_law_is_around, h1', hW, hc, hh', dNe_int, this]
  all_goals simp [f_law_is_around, runF, b_law_is_around, surrD]
end K57

set_option Elab.async false
set_option linter.all false
set_option maxRecDepth 100000
set_option maxHeartbeats 400000
namespace K57
open PySem PySem.Spec PyProof.Rows L2 Fx
@[simp] theorem finX_id {st : Store} {x : Str} : finX st (x, none) st = .exc (x, none) st := by
  unfold finX
  rw [if_pos ⟨keepsB_refl _ _, fun _ h => by cases h⟩, List.take_length]
theorem look_term_ok {n w : Nat} {d : D} {st : Store} (h : Pl n w d) : f_look_term [d] st = if termD d = true then .ok .non st else .exc ("NoTerm", none) st := by
  cases e : termD d <;> simp [f_look_term, runF, b_look_term, is_term_ok h, e]
theorem look_around_ok {n w : Nat} {d : D} {st : Store} (h : Pl n w d) : f_look_around [d] st = if surrD d = true then .ok .non st else .exc ("NoHole", none) st := by
  cases e : surrD d <;> simp [f_look_around, runF, b_look_around, is_surr_ok h, e]
/-- what is told of a term put in a surrounding -/
def fill (is js : List Int) : List Int := match ixOf (.int (-3)) (is.map D.int) with
  | some j => is.take j ++ (js ++ is.drop (j + 1))
  | none => []
theorem put_ok {is js : List Int} {st : Store} (h : surrP is = true) (hj : js.length ≤ 20000) : f_put_in_hole [.tup (is.map .int), .tup (js.map .int)] st = if 20000 < (is.length : Int) - 1 + js.length then .exc ("TooMuch", none) st else .ok (.tup ((fill is js).map .int)) st := by
  unfold surrP at h
  simp only [Bool.and_eq_true, decide_eq_true_eq] at h
  obtain ⟨h1, hh, _⟩ := h
  obtain ⟨j, j1, j2, j3⟩ := ix_hole hh
  have hi : ∀ st, mIndexT (.tup (is.map D.int)) [.int (-3)] st = .ok (.int (j : Nat)) st := fun st => by
    unfold mIndexT
    simp only [flat_ints, j1, flatD, and_self, if_true]
  have c1 : ∀ j : Nat, cutD (is.map D.int) none (some (j : Int)) = (is.map D.int).take j := fun j => cutD_to
  have c2 : ∀ j : Nat, cutD (is.map D.int) (some ((j : Int) + 1)) none = (is.map D.int).drop (j + 1) := fun j => by
    have := cutD_from (ds := is.map D.int) (j := j + 1)
    rw [← this]
    rfl
  by_cases hb : 20000 < (is.length : Int) - 1 + js.length
  · simp [f_put_in_hole, runF, b_put_in_hole, hb]
  · have lim : min j is.length + js.length ≤ 16777216 := by omega
    have lim2 : min j is.length + js.length + (is.length - (j + 1)) ≤ 16777216 := by omega
    have e : (is.map D.int).take j ++ ((js.map D.int) ++ (is.map D.int).drop (j + 1)) = (fill is js).map D.int := by
      unfold fill
      rw [j1]
      simp
    simp [f_put_in_hole, runF, b_put_in_hole, hb, hi, dSl, c1, c2, lim, lim2]
    rw [e]
    simp
def sayD (a b : D) : D := if surrD a = true then (if termD b = true then (match a, b with
  | .tup ds, .tup es => (match intsOf ds, intsOf es with
    | some is, some js => if 20000 < (is.length : Int) - 1 + js.length then .str "!TooMuch" else .tup ((fill is js).map .int)
    | _, _ => .non)
  | _, _ => .non) else .str "!NoTerm") else .str "!NoHole"
theorem surr_of {d : D} (h : surrD d = true) : ∃ is : List Int, d = .tup (is.map .int) ∧ surrP is = true := by
  unfold surrD at h
  split at h
  · rename_i ds
    split at h
    · rename_i is his
      exact ⟨is, by rw [intsOf_eq his], h⟩
    · cases h
  · cases h
theorem term_of {d : D} (h : termD d = true) : ∃ is : List Int, d = .tup (is.map .int) ∧ termP is = true := by
  unfold termD at h
  split at h
  · rename_i ds
    split at h
    · rename_i is his
      exact ⟨is, by rw [intsOf_eq his], h⟩
    · cases h
  · cases h
theorem termP_len {is : List Int} (h : termP is = true) : is.length ≤ 20000 := by
  unfold termP at h
  simp only [Bool.and_eq_true, decide_eq_true_eq] at h
  exact h.1.1.2
theorem kfH : kf ("NoHole", none) = some "!NoHole" := by rfl
theorem kfT : kf ("NoTerm", none) = some "!NoTerm" := by rfl
theorem kfM : kf ("TooMuch", none) = some "!TooMuch" := by rfl
theorem say_ok {n w n2 w2 : Nat} {a b : D} {st : Store} (h : Pl n w a) (h2 : Pl n2 w2 b) : f_law_say [a, b] st = .ok (sayD a b) st := by
  cases e1 : surrD a with
  | false =>
    unfold sayD
    rw [e1]
    simp [f_law_say, runF, b_law_say, sTryK, f_filled, b_filled, look_around_ok h, e1, kfH]
  | true =>
    cases e2 : termD b with
    | false =>
      unfold sayD
      rw [e1, e2]
      simp [f_law_say, runF, b_law_say, sTryK, f_filled, b_filled, look_around_ok h, look_term_ok h2, e1, e2, kfT]
    | true =>
      obtain ⟨is, rfl, p1⟩ := surr_of e1
      obtain ⟨js, rfl, p2⟩ := term_of e2
      unfold sayD
      rw [e1, e2]
      simp only [if_true, intsOf_mapI]
      by_cases hb : 20000 < (is.length : Int) - 1 + js.length
      · simp [f_law_say, runF, b_law_say, sTryK, f_filled, b_filled, look_around_ok h, look_term_ok h2, e1, e2, put_ok p1 (termP_len p2), hb, kfM]
      · simp [f_law_say, runF, b_law_say, sTryK, f_filled, b_filled, look_around_ok h, look_term_ok h2, e1, e2, put_ok p1 (termP_len p2), hb]
theorem due_ok {n w n2 w2 : Nat} {a b : D} {st : Store} (h : Pl n w a) (h2 : Pl n2 w2 b) (hn : n ≤ 64) (hw : w ≤ 16777216) (hn2 : n2 ≤ 64) (hw2 : w2 ≤ 16777216) : f_law_due [a, b] st = .ok (sayD a b) st := by
  have A := fun st => law_around_ok (st := st) h hn hw
  have T := fun st => law_is_term_ok (st := st) h2 hn2 hw2
  cases e1 : surrD a with
  | false =>
    unfold sayD
    rw [e1]
    simp [f_law_due, runF, b_law_due, A, e1]
  | true =>
    cases e2 : termD b with
    | false =>
      unfold sayD
      rw [e1, e2]
      simp [f_law_due, runF, b_law_due, A, T, e1, e2]
    | true =>
      obtain ⟨is, rfl, p1⟩ := surr_of e1
      obtain ⟨js, rfl, p2⟩ := term_of e2
      unfold sayD
      rw [e1, e2]
      simp only [if_true, intsOf_mapI]
      have hjl := termP_len p2
      have h' := p1
      unfold surrP at h'
      simp only [Bool.and_eq_true, decide_eq_true_eq] at h'
      obtain ⟨h1, hh, _⟩ := h'
      obtain ⟨j, j1, j2, j3⟩ := ix_hole hh
      have hi : ∀ st, mIndexT (.tup (is.map D.int)) [.int (-3)] st = .ok (.int (j : Nat)) st := fun st => by
        unfold mIndexT
        simp only [flat_ints, j1, flatD, and_self, if_true]
      have c1 : ∀ j : Nat, cutD (is.map D.int) none (some (j : Int)) = (is.map D.int).take j := fun j => cutD_to
      have c2 : ∀ j : Nat, cutD (is.map D.int) (some ((j : Int) + 1)) none = (is.map D.int).drop (j + 1) := fun j => by
        have := cutD_from (ds := is.map D.int) (j := j + 1)
        rw [← this]
        rfl
      by_cases hb : 20000 < (is.length : Int) - 1 + js.length
      · simp [f_law_due, runF, b_law_due, A, T, e1, e2, hb]
      · have lim : min j is.length + js.length ≤ 16777216 := by omega
        have lim2 : min j is.length + js.length + (is.length - (j + 1)) ≤ 16777216 := by omega
        have e : (is.map D.int).take j ++ ((js.map D.int) ++ (is.map D.int).drop (j + 1)) = (fill is js).map D.int := by
          unfold fill
          rw [j1]
          simp
        simp [f_law_due, runF, b_law_due, A, T, e1, e2, hb, hi, dSl, c1, c2, lim, lim2]
        rw [e]
        simp
end K57

set_option Elab.async false
set_option linter.all false
set_option maxRecDepth 100000
set_option maxHeartbeats 400000
namespace K57
open PySem PySem.Spec PyProof.Rows L2 Fx
/-- a term under way -/
structure TS (st : Store) (k n : Nat) (most spots : Int) (is ws : List Int) (wa : Nat) (s : Store) : Prop where
  ss : SS st k n s
  fo : s[st.length]? = some (.lst (is.map .int))
  wt : s[wa]? = some (.lst (ws.map .int))
  wl : st.length < wa
  ro : (is.length : Int) + ws.length ≤ most
  du : dueR is 1 = some ws.length
  wb : ∀ t ∈ ws, 0 ≤ t ∧ t ≤ is.length
  fb : ∀ i ∈ is, -2 ≤ i ∧ i < most + spots
theorem due_snoc {is : List Int} {a i : Int} (h : dueR is 1 = some a) (ha : a ≠ 0) : dueR (is ++ [i]) 1 = some (a + wd i) := by
  rw [dueR_app, h]
  show (if a = 0 then none else dueR [] (a + wd i)) = _
  rw [if_neg ha]
  rfl
theorem law_term_ok {st : Store} {k n : Nat} {most spots : Int} (h : Purse st k n) (hn : n + 1000 < 1000000) (hm : 1 ≤ most) (hm2 : most ≤ 100) (hs : 1 ≤ spots) (hs2 : spots ≤ 1000) :
    ∃ (is : List Int) (st' : Store) (n' : Nat), f_law_term [.own k, .int most, .int spots] st = .ok (.tup (is.map .int)) st' ∧ Chg k st st' ∧ Purse st' k n' ∧ n' ≤ n + 200 ∧ (is.length : Int) ≤ most ∧ dueR is 1 = some 0 ∧ ∀ i ∈ is, -2 ≤ i ∧ i < most + spots := by
  have S0 := SS.start h
  have hk := S0.lt
  unfold f_law_term runF b_law_term
  simp only [List.length_cons, List.length_nil, if_true, startD]
  rw [sSeq_nx (σ' := [some (.own k), some (.int most), some (.int spots), some (.own st.length), none, none, none, none, none]) (st' := st ++ [.lst []]) (by simp)]
  rw [sSeq_nx (σ' := [some (.own k), some (.int most), some (.int spots), some (.own st.length), some (.own (st.length + 1)), none, none, none, none]) (st' := (st ++ [.lst []]) ++ [.lst [.int 0]]) (by simp)]
  rw [sSeq_eq]
  generalize hr : whileLoop _ _ _ _ _ = r
  have L := while_at (Inv := fun m σ s => ∃ (n' wa : Nat) (is ws : List Int) (x5 x6 x7 x8 : Option D), TS st k n' most spots is ws wa s ∧ n' = n + 2 * is.length ∧ (m : Int) = most - is.length ∧ σ = [some (.own k), some (.int most), some (.int spots), some (.own st.length), some (.own wa), x5, x6, x7, x8])
    (Q := fun r => ∃ (σ : Slots) (n' : Nat) (is : List Int) (s : Store), r = .nx σ s ∧ σ[3]? = some (some (.own st.length)) ∧ SS st k n' s ∧ s[st.length]? = some (.lst (is.map .int)) ∧ n' ≤ n + 200 ∧ (is.length : Int) ≤ most ∧ dueR is 1 = some 0 ∧ ∀ i ∈ is, -2 ≤ i ∧ i < most + spots) hr (m := most.toNat)
    ⟨n, st.length + 1, [], [0], none, none, none, none, ⟨(S0.app _).app _, by simp, by simp, by omega, by simpa using hm, rfl, by simp, by simp⟩, by simp, by simp; omega, rfl⟩ (by omega) ?_
  · obtain ⟨σ, n', is, s, rfl, h3, S, hf, b1, b2, b3, b4⟩ := L
    have e := S.finP (d := .tup (is.map .int)) purL_ints
    refine ⟨is, s.take st.length, n', ?_, S.take.1, S.take.2, b1, b2, b3, b4⟩
    simp [h3, cTuple, hf, e]
  · rintro m σ s ⟨n', wa, is, ws, x5, x6, x7, x8, T, hn', hmm, rfl⟩
    have hTl := T.ss.len
    have hwl : wa < s.length := (List.getElem?_eq_some_iff.mp T.wt).1
    have hfl : st.length < s.length := (List.getElem?_eq_some_iff.mp T.fo).1
    refine ⟨!ws.isEmpty, s ++ [.lst []], ?_, ?_⟩
    · have := dNe_nilL (s := s ++ [.lst []]) (a := wa) (b := s.length) (ws := ws) (by rw [List.getElem?_append_left hwl]; exact T.wt) (by simp)
      simp [this]
    · rcases List.eq_nil_or_concat ws with hw | ⟨ws', t, hw⟩
      · subst hw
        have hro := T.ro
        refine ⟨_, n', is, s ++ [.lst []], rfl, rfl, T.ss.app _, by rw [List.getElem?_append_left hfl]; exact T.fo, ?_, by simpa using hro, T.du, T.fb⟩
        have : (is.length : Int) ≤ most := by simpa using hro
        omega
      · rw [List.concat_eq_append] at hw
        subst hw
        have hro := T.ro
        have hdu := T.du
        rw [List.length_append, List.length_singleton] at hro hdu
        have hne : (!(ws' ++ [t]).isEmpty) = true := by simp
        rw [hne, if_pos rfl]
        have ht := T.wb t (by simp)
        -- pop
        obtain ⟨s1, hs1⟩ : ∃ s1, s1 = (s ++ [Cell.lst []]).set wa (.lst (ws'.map .int)) := ⟨_, rfl⟩
        have hs1l : s1.length = s.length + 1 := by rw [hs1]; simp
        have S1 : SS st k n' s1 := by rw [hs1]; exact (T.ss.app _).set (by have := T.wl; omega) _
        have f1 : s1[st.length]? = some (.lst (is.map .int)) := by
          rw [hs1, List.getElem?_set_ne (by have := T.wl; omega), List.getElem?_append_left hfl]
          exact T.fo
        have w1 : s1[wa]? = some (.lst (ws'.map .int)) := by
          rw [hs1, List.getElem?_set_self (by simp; omega)]
        have wt0 : (s ++ [Cell.lst []])[wa]? = some (.lst ((ws' ++ [t]).map .int)) := by
          rw [List.getElem?_append_left hwl]
          exact T.wt
        rw [sSeq_nx (σ' := [some (.own k), some (.int most), some (.int spots), some (.own st.length), some (.own wa), some (.int t), x6, x7, x8]) (st' := s1) (by
          rw [hs1]
          simp [wt0, mPop])]
        -- room
        obtain ⟨room, hroom⟩ : ∃ room : Int, room = most - is.length - ws'.length - 1 := ⟨_, rfl⟩
        rw [sSeq_nx (σ' := [some (.own k), some (.int most), some (.int spots), some (.own st.length), some (.own wa), some (.int t), some (.int room), x7, x8]) (st' := s1) (by
          simp [f1, w1, hroom])]
        -- sort
        obtain ⟨v, s2, e2, v0, v1, c2, p2⟩ := take_ok (many := 7) S1.pu (by omega) (by omega) (by omega)
        have S2 := S1.chg c2 p2
        have f2 : s2[st.length]? = some (.lst (is.map .int)) := (c2.oth _ (S1.ne (Nat.le_refl _))).trans f1
        have w2 : s2[wa]? = some (.lst (ws'.map .int)) := (c2.oth _ (S1.ne (by have := T.wl; omega))).trans w1
        rw [sSeq_nx (σ' := [some (.own k), some (.int most), some (.int spots), some (.own st.length), some (.own wa), some (.int t), some (.int room), some (.int v), x8]) (st' := s2) (by
          simp [e2])]
        -- bare
        have hb : decide (t + spots = 0) = false := decide_eq_false (by omega)
        rw [sSeq_nx (σ' := [some (.own k), some (.int most), some (.int spots), some (.own st.length), some (.own wa), some (.int t), some (.int room), some (.int v), some (.bl false)]) (st' := s2) (by
          simp [dEq_int]
          omega)]
        have hfb : ∀ x : Int, -2 ≤ x → x < most + spots → ∀ i ∈ is ++ [x], -2 ≤ i ∧ i < most + spots := fun x h1 h2 i hi => by
          rcases List.mem_append.mp hi with h | h
          · exact T.fb i h
          · rw [List.mem_singleton.mp h]
            exact ⟨h1, h2⟩
        have hfl2 : st.length < s2.length := (List.getElem?_eq_some_iff.mp f2).1
        have hwl2 : wa < s2.length := (List.getElem?_eq_some_iff.mp w2).1
        have hii : is.length < 16777216 := by omega
        have hww : ws'.length < 16777216 := by omega
        have hneq : st.length ≠ wa := by have := T.wl; omega
        by_cases cA : v < 2 ∧ 0 < room
        · -- a turn
          obtain ⟨s3, hs3⟩ : ∃ s3, s3 = s2.set st.length (.lst ((is ++ [-1]).map .int)) := ⟨_, rfl⟩
          obtain ⟨s4, hs4⟩ : ∃ s4, s4 = s3.set wa (.lst ((ws' ++ [t + 1]).map .int)) := ⟨_, rfl⟩
          have w3 : s3[wa]? = some (.lst (ws'.map .int)) := by rw [hs3, List.getElem?_set_ne hneq]; exact w2
          have e : sIf (tOr2 (tAnd2 (tV (eBin dLt (eVar 7) (eC (.int 2)))) (tV (eBin dGt (eVar 6) (eC (.int 0))))) (tAnd2 (tV (eVar 8)) (tOr2 (tV (eBin dLt (eVar 7) (eC (.int 5)))) (tV (eBin dLt (eVar 6) (eC (.int 2)))))))
              (sSeq (sDrop (eMtL mApp (eVar 3) (aCons (eUn dNeg (eC (.int 1))) aNil)))
              (sDrop (eMtL mApp (eVar 4) (aCons (eBin dAdd (eVar 5) (eC (.int 1))) aNil))))
              (sIf (tAnd2 (tV (eBin dGt (eVar 6) (eC (.int 1)))) (tOr2 (tV (eBin dLt (eVar 7) (eC (.int 5)))) (tV (eVar 8))))
              (sSeq (sDrop (eMtL mApp (eVar 3) (aCons (eUn dNeg (eC (.int 2))) aNil)))
              (sAsg (eBin dAdd (eVar 4) (eLst (aCons (eVar 5) (aCons (eVar 5) aNil)))) (gN 4)))
              (sDrop (eMtL mApp (eVar 3) (aCons (eCallF 2 f_law_take (aCons (eVar 0) (aCons (eBin dAdd (eVar 5) (eVar 2)) aNil))) aNil))))
              [some (.own k), some (.int most), some (.int spots), some (.own st.length), some (.own wa), some (.int t), some (.int room), some (.int v), some (.bl false)] s2
              = .nx [some (.own k), some (.int most), some (.int spots), some (.own st.length), some (.own wa), some (.int t), some (.int room), some (.int v), some (.bl false)] s4 := by
            have q : s2.set st.length (.lst ((is ++ [-1]).map .int)) = s3 := hs3.symm
            have q2 : s3.set wa (.lst ((ws' ++ [t + 1]).map .int)) = s4 := hs4.symm
            simp only [List.map_append, List.map_cons, List.map_nil] at q q2
            simp [cA.1, cA.2, f2, mApp, hii, q, w3, hww, q2]
          rw [e]
          refine ⟨m - 1, by omega, n' + 2, wa, is ++ [-1], ws' ++ [t + 1], _, _, _, _, ⟨?_, ?_, ?_, T.wl, ?_, ?_, ?_, hfb _ (by omega) (by omega)⟩, by rw [List.length_append, List.length_singleton]; omega, by rw [List.length_append, List.length_singleton]; omega, rfl⟩
          · rw [hs4, hs3]
            exact (((S2.set (Nat.le_refl _) _).set (by have := T.wl; omega) _)).chg (Chg.refl (purse_pure ((S2.set (Nat.le_refl _) _).set (by have := T.wl; omega) _).pu)) (((S2.set (Nat.le_refl _) _).set (by have := T.wl; omega) _).pu.mono (by omega))
          · rw [hs4, List.getElem?_set_ne (Ne.symm hneq), hs3, List.getElem?_set_self hfl2]
          · rw [hs4, List.getElem?_set_self (by rw [hs3, List.length_set]; exact hwl2)]
          · simp; omega
          · rw [due_snoc hdu (by omega)]
            simp [wd]
          · intro x hx
            rw [List.length_append, List.length_singleton]
            rcases List.mem_append.mp hx with h | h
            · have := T.wb x (by simp [h]); omega
            · rw [List.mem_singleton.mp h]; omega
        · by_cases cB : 1 < room ∧ v < 5
          · -- a gift
            obtain ⟨s3, hs3⟩ : ∃ s3, s3 = s2.set st.length (.lst ((is ++ [-2]).map .int)) := ⟨_, rfl⟩
            have w3 : s3[wa]? = some (.lst (ws'.map .int)) := by rw [hs3, List.getElem?_set_ne hneq]; exact w2
            have hwl3 : wa < s3.length := (List.getElem?_eq_some_iff.mp w3).1
            have f3 : s3[st.length]? = some (.lst ((is ++ [-2]).map .int)) := by rw [hs3, List.getElem?_set_self hfl2]
            have hfl3 : st.length < s3.length := (List.getElem?_eq_some_iff.mp f3).1
            have S3 : SS st k (n' + 1) s3 := by rw [hs3]; exact S2.set (Nat.le_refl _) _
            have w3' : (s3 ++ [Cell.lst [.int t, .int t]])[wa]? = some (.lst (ws'.map .int)) := by rw [List.getElem?_append_left hwl3]; exact w3
            have lim : ws'.length + 2 ≤ 16777216 := by omega
            have nA : ¬ (v < 2 ∧ 0 < room) := cA
            have e : sIf (tOr2 (tAnd2 (tV (eBin dLt (eVar 7) (eC (.int 2)))) (tV (eBin dGt (eVar 6) (eC (.int 0))))) (tAnd2 (tV (eVar 8)) (tOr2 (tV (eBin dLt (eVar 7) (eC (.int 5)))) (tV (eBin dLt (eVar 6) (eC (.int 2)))))))
                (sSeq (sDrop (eMtL mApp (eVar 3) (aCons (eUn dNeg (eC (.int 1))) aNil)))
                (sDrop (eMtL mApp (eVar 4) (aCons (eBin dAdd (eVar 5) (eC (.int 1))) aNil))))
                (sIf (tAnd2 (tV (eBin dGt (eVar 6) (eC (.int 1)))) (tOr2 (tV (eBin dLt (eVar 7) (eC (.int 5)))) (tV (eVar 8))))
                (sSeq (sDrop (eMtL mApp (eVar 3) (aCons (eUn dNeg (eC (.int 2))) aNil)))
                (sAsg (eBin dAdd (eVar 4) (eLst (aCons (eVar 5) (aCons (eVar 5) aNil)))) (gN 4)))
                (sDrop (eMtL mApp (eVar 3) (aCons (eCallF 2 f_law_take (aCons (eVar 0) (aCons (eBin dAdd (eVar 5) (eVar 2)) aNil))) aNil))))
                [some (.own k), some (.int most), some (.int spots), some (.own st.length), some (.own wa), some (.int t), some (.int room), some (.int v), some (.bl false)] s2
                = .nx [some (.own k), some (.int most), some (.int spots), some (.own st.length), some (.own (s3.length + 1)), some (.int t), some (.int room), some (.int v), some (.bl false)] (s3 ++ [.lst [.int t, .int t]] ++ [.lst ((ws' ++ [t, t]).map .int)]) := by
              have q : s2.set st.length (.lst ((is ++ [-2]).map .int)) = s3 := hs3.symm
              simp only [List.map_append, List.map_cons, List.map_nil] at q
              by_cases c0 : v < 2
              · have c1 : ¬ 0 < room := fun z => nA ⟨c0, z⟩
                omega
              · simp [c0, cB.1, cB.2, f2, mApp, hii, q, w3, w3', lim]
            rw [e]
            refine ⟨m - 1, by omega, n' + 2, s3.length + 1, is ++ [-2], ws' ++ [t, t], _, _, _, _, ⟨(((S3.app _).app _)).chg (Chg.refl (purse_pure ((S3.app _).app _).pu)) (((S3.app _).app _).pu.mono (by omega)), ?_, ?_, by omega, ?_, ?_, ?_, hfb _ (by omega) (by omega)⟩, by rw [List.length_append, List.length_singleton]; omega, by rw [List.length_append, List.length_singleton]; omega, rfl⟩
            · rw [List.getElem?_append_left (by simp; omega), List.getElem?_append_left hfl3]
              exact f3
            · simp
            · simp; omega
            · rw [due_snoc hdu (by omega)]
              simp [wd]
              omega
            · intro x hx
              rw [List.length_append, List.length_singleton]
              rcases List.mem_append.mp hx with h | h
              · have := T.wb x (by simp [h]); omega
              · have : x = t := by simpa using h
                omega
          · -- a spot
            obtain ⟨u, s3, e3, u0, u1, c3, p3⟩ := take_ok (many := t + spots) S2.pu (by omega) (by omega) (by omega)
            have S3 := S2.chg c3 p3
            have f3 : s3[st.length]? = some (.lst (is.map .int)) := (c3.oth _ (S2.ne (Nat.le_refl _))).trans f2
            have w3 : s3[wa]? = some (.lst (ws'.map .int)) := (c3.oth _ (S2.ne (by have := T.wl; omega))).trans w2
            have hfl3 : st.length < s3.length := (List.getElem?_eq_some_iff.mp f3).1
            obtain ⟨s4, hs4⟩ : ∃ s4, s4 = s3.set st.length (.lst ((is ++ [u]).map .int)) := ⟨_, rfl⟩
            have e : sIf (tOr2 (tAnd2 (tV (eBin dLt (eVar 7) (eC (.int 2)))) (tV (eBin dGt (eVar 6) (eC (.int 0))))) (tAnd2 (tV (eVar 8)) (tOr2 (tV (eBin dLt (eVar 7) (eC (.int 5)))) (tV (eBin dLt (eVar 6) (eC (.int 2)))))))
                (sSeq (sDrop (eMtL mApp (eVar 3) (aCons (eUn dNeg (eC (.int 1))) aNil)))
                (sDrop (eMtL mApp (eVar 4) (aCons (eBin dAdd (eVar 5) (eC (.int 1))) aNil))))
                (sIf (tAnd2 (tV (eBin dGt (eVar 6) (eC (.int 1)))) (tOr2 (tV (eBin dLt (eVar 7) (eC (.int 5)))) (tV (eVar 8))))
                (sSeq (sDrop (eMtL mApp (eVar 3) (aCons (eUn dNeg (eC (.int 2))) aNil)))
                (sAsg (eBin dAdd (eVar 4) (eLst (aCons (eVar 5) (aCons (eVar 5) aNil)))) (gN 4)))
                (sDrop (eMtL mApp (eVar 3) (aCons (eCallF 2 f_law_take (aCons (eVar 0) (aCons (eBin dAdd (eVar 5) (eVar 2)) aNil))) aNil))))
                [some (.own k), some (.int most), some (.int spots), some (.own st.length), some (.own wa), some (.int t), some (.int room), some (.int v), some (.bl false)] s2
                = .nx [some (.own k), some (.int most), some (.int spots), some (.own st.length), some (.own wa), some (.int t), some (.int room), some (.int v), some (.bl false)] s4 := by
              have q : s3.set st.length (.lst ((is ++ [u]).map .int)) = s4 := hs4.symm
              simp only [List.map_append, List.map_cons, List.map_nil] at q
              by_cases c0 : v < 2
              · have c1 : ¬ 0 < room := fun z => cA ⟨c0, z⟩
                have c2 : ¬ 1 < room := by omega
                simp [c0, c1, c2, f2, f3, e3, mApp, hii, q]
              · by_cases c2 : 1 < room
                · have c3 : ¬ v < 5 := fun z => cB ⟨c2, z⟩
                  simp [c0, c2, c3, f2, f3, e3, mApp, hii, q]
                · simp [c0, c2, f2, f3, e3, mApp, hii, q]
            rw [e]
            refine ⟨m - 1, by omega, n' + 2, wa, is ++ [u], ws', _, _, _, _, ⟨?_, ?_, ?_, T.wl, ?_, ?_, ?_, hfb _ (by omega) (by omega)⟩, by rw [List.length_append, List.length_singleton]; omega, by rw [List.length_append, List.length_singleton]; omega, rfl⟩
            · rw [hs4]
              exact S3.set (Nat.le_refl _) _
            · rw [hs4, List.getElem?_set_self hfl3]
            · rw [hs4, List.getElem?_set_ne hneq]
              exact w3
            · simp; omega
            · rw [due_snoc hdu (by omega)]
              have : wd u = -1 := by unfold wd; rw [if_neg (by omega), if_neg (by omega)]
              rw [this]
              congr 1
              omega
            · intro x hx
              rw [List.length_append, List.length_singleton]
              have := T.wb x (by simp [hx])
              omega
end K57

set_option Elab.async false
set_option linter.all false
set_option maxRecDepth 100000
set_option maxHeartbeats 400000
namespace K57
open PySem PySem.Spec PyProof.Rows L2 Fx
theorem dueR_nonneg : ∀ {is : List Int} {a b : Int}, 0 ≤ a → dueR is a = some b → 0 ≤ b
  | [], a, b, h, e => by
    have : a = b := Option.some.inj e
    omega
  | i :: is, a, b, h, e => by
    rw [dueR] at e
    split at e
    · cases e
    · have := @wd_ge i
      exact dueR_nonneg (by omega) e
theorem law_end_ok {is : List Int} {p : Nat} {st : Store} (hd : dueR is 1 = some 0) (hp : p < is.length) (hl : is.length ≤ 1000) : ∃ q : Nat, f_law_end [.tup (is.map .int), .int (p : Int)] st = .ok (.int (q : Int)) st ∧ q ≤ is.length := by
  unfold f_law_end runF b_law_end
  simp only [List.length_cons, List.length_nil, if_true, startD]
  rw [sSeq_nx (σ' := [some (.tup (is.map .int)), some (.int p), some (.int 1)]) (st' := st) (by simp)]
  rw [sSeq_eq]
  generalize hr : whileLoop _ _ _ _ _ = r
  have L := while_at (Inv := fun m σ s => ∃ (pos : Nat) (a a' : Int) (j : Store), σ = [some (.tup (is.map .int)), some (.int pos), some (.int a)] ∧ s = st ++ j ∧ dueR (is.drop pos) a' = some 0 ∧ a ≤ a' ∧ pos ≤ is.length ∧ m = is.length - pos)
    (Q := fun r => ∃ (pos : Nat) (x : Option D) (j : Store), r = .nx [some (.tup (is.map .int)), some (.int pos), x] (st ++ j) ∧ pos ≤ is.length) hr (m := is.length - p) ?_ (by omega) ?_
  · obtain ⟨pos, x, j, rfl, h⟩ := L
    exact ⟨pos, by simp, h⟩
  · have e := hd
    rw [← List.take_append_drop p is, dueR_app] at e
    cases e1 : dueR (is.take p) 1 with
    | none => rw [e1] at e; cases e
    | some a0 =>
      rw [e1] at e
      have h0 := dueR_nonneg (by omega) e1
      have e' : dueR (is.drop p) a0 = some 0 := e
      have hne : a0 ≠ 0 := fun z => by
        rw [List.drop_eq_getElem_cons hp, dueR, if_pos z] at e'
        cases e'
      exact ⟨p, 1, a0, [], rfl, by simp, e', by omega, by omega, rfl⟩
  · rintro m σ s ⟨pos, a, a', j, rfl, rfl, e, ha, hpos, rfl⟩
    by_cases h0 : 0 < a
    · refine ⟨true, st ++ j, by simp [h0], ?_⟩
      rw [if_pos rfl]
      have hlt : pos < is.length := by
        rcases Nat.lt_or_ge pos is.length with h | h
        · exact h
        · rw [List.drop_eq_nil_of_le h] at e
          have : a' = 0 := Option.some.inj e
          omega
      rw [List.drop_eq_getElem_cons hlt, dueR] at e
      have hne : ¬ a' = 0 := by omega
      rw [if_neg hne] at e
      have ix : ∀ s, dIx (.tup (is.map D.int)) (.int (pos : Int)) s = .ok (.int is[pos]) s := fun s => by
        simp [hlt]
      have g := fun s => get_wd (st := s) (ex := eBin dIx (eVar 0) (eVar 1)) (σ := [some (.tup (is.map .int)), some (.int (pos : Int)), some (.int a)]) (i := is[pos]) fun st' => by simp [hlt]
      rw [sSeq_nx (σ' := [some (.tup (is.map .int)), some (.int (pos : Int)), some (.int (a + wd is[pos]))]) (st' := st ++ j ++ [.dic [(.inl (-2), .int 1), (.inl (-1), .int 0)]]) (by
        simp only [sAsg, eBin, eVar, lift, R.bind, List.getElem?_cons_succ, List.getElem?_cons_zero] at g ⊢
        rw [g]
        rfl)]
      have e3 : sAsg (eBin dAdd (eVar 1) (eC (D.int 1))) (gN 1) [some (.tup (is.map .int)), some (.int (pos : Int)), some (.int (a + wd is[pos]))] (st ++ j ++ [.dic [(.inl (-2), .int 1), (.inl (-1), .int 0)]]) = .nx [some (.tup (is.map .int)), some (.int ((pos + 1 : Nat) : Int)), some (.int (a + wd is[pos]))] (st ++ j ++ [.dic [(.inl (-2), .int 1), (.inl (-1), .int 0)]]) := by simp
      rw [e3]
      exact ⟨is.length - (pos + 1), by omega, pos + 1, a + wd is[pos], a' + wd is[pos], j ++ [.dic [(.inl (-2), .int 1), (.inl (-1), .int 0)]], rfl, by rw [List.append_assoc], e, by omega, by omega, rfl⟩
    · refine ⟨false, st ++ j, by simp [h0], ?_⟩
      rw [if_neg Bool.false_ne_true]
      exact ⟨pos, _, j, rfl, hpos⟩
theorem mk_around_ok {st : Store} {k n : Nat} {most : Int} (h : Purse st k n) (hn : n + 2000 < 1000000) (hm : 1 ≤ most) (hm2 : most ≤ 100) :
    ∃ (is : List Int) (st' : Store) (n' : Nat), f_law_around [.own k, .int most] st = .ok (.tup (is.map .int)) st' ∧ Chg k st st' ∧ Purse st' k n' ∧ n' ≤ n + 300 ∧ is.length ≤ 300 := by
  obtain ⟨is, s1, n1, e1, c1, p1, b1, b2, b3, b4⟩ := law_term_ok (spots := 3) h (by omega) hm hm2 (by omega) (by omega)
  have hne : 0 < is.length := by
    cases is with
    | nil => cases b3
    | cons => exact Nat.succ_pos _
  obtain ⟨v, s2, e2, v0, v1, c2, p2⟩ := take_ok (many := (is.length : Int)) p1 (by omega) (by omega) (by omega)
  obtain ⟨p, rfl⟩ : ∃ p : Nat, v = p := ⟨v.toNat, by omega⟩
  obtain ⟨q, e3, hq⟩ := law_end_ok (p := p) (st := s2) b3 (by omega) (by omega)
  have S := ((SS.start h).chg c1 p1).chg c2 p2
  have x1 : cutD (is.map D.int) none (some (p : Int)) = (is.map D.int).take p := cutD_to
  have x2 : cutD (is.map D.int) (some (q : Int)) none = (is.map D.int).drop q := cutD_from
  have lim : min p is.length + 1 ≤ 16777216 := by omega
  have lim2 : min p is.length + 1 + (is.length - q) ≤ 16777216 := by omega
  refine ⟨is.take p ++ -3 :: is.drop q, s2, n1 + 1, ?_, c1.trans c2, p2, by omega, by simp; omega⟩
  have e : (is.map D.int).take p ++ D.int (-3) :: (is.map D.int).drop q = (is.take p ++ -3 :: is.drop q).map .int := by simp
  have f := S.finP (d := .tup ((is.take p ++ -3 :: is.drop q).map .int)) purL_ints
  have tk : s2.take st.length = s2 := List.take_of_length_le (by rw [c2.len, c1.len]; exact Nat.le_refl _)
  rw [tk] at f
  simp [f_law_around, runF, b_law_around, e1, e2, e3, dSl, x1, x2, lim, lim2]
  rw [e]
  rw [f]
end K57

set_option Elab.async false
set_option linter.all false
set_option maxRecDepth 100000
set_option maxHeartbeats 400000
namespace K57
open PySem PySem.Spec PyProof.Rows L2 Fx
/-- what is behind a spoiling -/
def SpO (st : Store) (k N n w : Nat) (r : R D) : Prop := ∃ (d' : D) (st' : Store) (N' : Nat), r = .ok d' st' ∧ Pl n w d' ∧ Chg k st st' ∧ Purse st' k N' ∧ N' ≤ N
theorem spo_fin {st s : Store} {k N N' n w : Nat} {d d' : D} (S : SS st k N s) (f : frzT st.length s d = some d') (p : Pl n w d') (h : N ≤ N') : SpO st k N' n w (finD st d s) :=
  ⟨d', _, N, S.fin f, p, S.take.1, S.take.2, h⟩
theorem spo_pl {st s : Store} {k N N' n w : Nat} {d : D} (S : SS st k N s) (p : Pl n w d) (h : N ≤ N') : SpO st k N' n w (finD st d s) := spo_fin S (frzT_pl p) p h
theorem spoilt_ok : ∀ (fu n w N : Nat) (d : D) (deep : Int) (st : Store) (k : Nat), Pl n w d → n ≤ 6 → 40 ≤ w → w ≤ 30000 → Purse st k N → N + 10 * fu < 900000 → 0 ≤ deep → deep ≤ 4 → 5 ≤ deep + fu → SpO st k (N + 10 * fu) (n + 1) (w + 1) (f_law_spoilt fu [.own k, d, .int deep] st)
  | 0, _, _, _, _, deep, _, _, _, _, _, _, _, _, h1, h2, h3 => by omega
  | fu + 1, n, w, N, d, deep, st, k, hd, hn, hw, hw2, h, hN, d0, d1, d2 => by
    have S0 := SS.start h
    have hk := S0.lt
    obtain ⟨v, s1, e1, v0, v1, c1, p1⟩ := take_ok (many := 10) h (by omega) (by omega) (by omega)
    have S1 := S0.chg c1 p1
    obtain ⟨f, s2, e2, f0, f1, c2, p2⟩ := take_ok (many := 60) p1 (by omega) (by omega) (by omega)
    have S2 := S1.chg c2 p2
    show SpO st k (N + 10 * (fu + 1)) (n + 1) (w + 1) (runF 3 9 (b_law_spoilt fu) [.own k, d, .int deep] st)
    unfold runF b_law_spoilt
    simp only [List.length_cons, List.length_nil, if_true, startD]
    rw [sSeq_nx (σ' := [some (.own k), some d, some (.int deep), some (.int v), none, none, none, none, none]) (st' := s1) (by simp [e1])]
    rw [sSeq_nx (σ' := [some (.own k), some d, some (.int deep), some (.int v), some (.int f), none, none, none, none]) (st' := s2) (by simp [e2])]
    -- a sequence
    have seq : ∀ (ds : List D) (isT : Bool), (d = if isT = true then .tup ds else .lst ds) → ∃ (x : D) (s : Store), sIf (tV (eUn (cIsi2 "list" "tuple") (eVar 1)))
          (sSeq (sAsg (eCall cList (aCons (eVar 1) aNil)) (gN 5))
          (sSeq (sIf (tAnd2 (tV (eBin dGt (eCall cLen (aCons (eVar 5) aNil)) (eC (.int 0)))) (tV (eBin dLt (eVar 3) (eC (.int 8)))))
          (sSeq (sAsg (eBin dMod (eVar 4) (eCall cLen (aCons (eVar 5) aNil))) (gN 6))
          (sSeq (sIf (tAnd2 (tV (eBin dLt (eVar 3) (eC (.int 6)))) (tV (eBin dLt (eVar 2) (eC (.int 4)))))
          (sSub (eCallF 3 (f_law_spoilt fu) (aCons (eVar 0) (aCons (eBin dIx (eVar 5) (eVar 6)) (aCons (eBin dAdd (eVar 2) (eC (.int 1))) aNil)))) (eVar 5) (eVar 6) dSet)
          (sIf (tV (eBin dLt (eVar 3) (eC (.int 7))))
          (sDrop (eMtL mPopAt (eVar 5) (aCons (eVar 6) aNil)))
          (sDrop (eMtL mIns (eVar 5) (aCons (eVar 6) (aCons (eBin dIx (eVar 5) (eCallF 2 f_law_take (aCons (eVar 0) (aCons (eCall cLen (aCons (eVar 5) aNil)) aNil)))) aNil))))))
          (sRet (eBin dIx (eLst (aCons (eVar 5) (aCons (eCall cTuple (aCons (eVar 5) aNil)) aNil))) (eCall cInt (aCons (eUn (cIsi "tuple") (eVar 1)) aNil))))))
          sPass)
          (sRet (eBin dIx (eLst (aCons (eVar 5) (aCons (eCall cTuple (aCons (eVar 5) aNil)) (aCons (eRev (eVar 5)) (aCons (eCall cTuple (aCons (eRev (eVar 5)) aNil)) (aCons (eC .non) (aCons (eC (.str "none")) (aCons (eC (.int 0)) aNil)))))))) (eBin dMod (eVar 4) (eC (.int 7)))))))
          sPass [some (.own k), some d, some (.int deep), some (.int v), some (.int f), none, none, none, none] s2 = .ret x s ∧ SpO st k (N + 10 * (fu + 1)) (n + 1) (w + 1) (finD st x s) := by
      intro ds isT hds
      obtain ⟨m, rfl⟩ : ∃ m, n = m + 1 := by
        cases n with
        | zero => subst hds; cases isT <;> (unfold Pl at hd; exact hd.elim)
        | succ m => exact ⟨m, rfl⟩
      have hds2 : ds.length ≤ w ∧ ∀ d ∈ ds, Pl m w d := by
        subst hds
        cases isT <;> (unfold Pl at hd; exact hd)
      obtain ⟨hlen, hall⟩ := hds2
      have ty : tyOf d s2 = some (if isT = true then "tuple" else "list") := by subst hds; cases isT <;> rfl
      have sq : seqOf d s2 = some ds := by subst hds; cases isT <;> rfl
      have L1 : s2.length = st.length := by rw [c2.len, c1.len]
      have S3 := S2.app [.lst ds]
      have f3 : (s2 ++ [Cell.lst ds])[s2.length]? = some (.lst ds) := by simp
      obtain ⟨s3, hs3⟩ : ∃ s3, s3 = s2 ++ [Cell.lst ds] := ⟨_, rfl⟩
      obtain ⟨L, hL⟩ : ∃ L, L = s2.length := ⟨_, rfl⟩
      rw [← hs3] at S3 f3
      rw [← hL] at f3 L1
      have hLl : L < s3.length := by rw [hs3, hL]; simp
      rw [sIf_t (st' := s2) (by
        subst hds
        cases isT <;> simp [cIsi2])]
      rw [sSeq_nx (σ' := [some (.own k), some d, some (.int deep), some (.int v), some (.int f), some (.own L), none, none, none]) (st' := s3) (by
        subst hds
        cases isT <;> simp [cList, hs3, hL])]
      have len3 : cLen [.own L] s3 = .ok (.int ds.length) s3 := by simp [f3]
      by_cases c0 : 0 < ds.length ∧ v < 8
      · -- a change
        obtain ⟨a, ha⟩ : ∃ a : Nat, f % (ds.length : Int) = a := ⟨(f % (ds.length : Int)).toNat, by have := Int.emod_nonneg f (b := (ds.length : Int)) (by omega); omega⟩
        have hal : a < ds.length := by have := Int.emod_lt_of_pos f (b := (ds.length : Int)) (by omega); omega
        -- what is told of what stands there in the end
        have fin : ∀ (es : List D) (s : Store) (N' : Nat), SS st k N' s → s[L]? = some (.lst es) → es.length ≤ w + 1 → (∀ d ∈ es, Pl (m + 1) (w + 1) d) → N' ≤ N + 10 * (fu + 1) →
            ∃ (x : D) (s' : Store), sRet (eBin dIx (eLst (aCons (eVar 5) (aCons (eCall cTuple (aCons (eVar 5) aNil)) aNil))) (eCall cInt (aCons (eUn (cIsi "tuple") (eVar 1)) aNil))) [some (.own k), some d, some (.int deep), some (.int v), some (.int f), some (.own L), some (.int a), none, none] s = .ret x s' ∧ SpO st k (N + 10 * (fu + 1)) (m + 1 + 1) (w + 1) (finD st x s') := by
          intro es s N' S hs hl he hN'
          have hLs : L < s.length := (List.getElem?_eq_some_iff.mp hs).1
          have S' := S.app [.lst [.own L, .tup es]]
          have hs' : (s ++ [Cell.lst [.own L, .tup es]])[L]? = some (.lst es) := by rw [List.getElem?_append_left hLs]; exact hs
          cases isT with
          | true =>
            subst hds
            exact ⟨.tup es, s ++ [.lst [.own L, .tup es]], by simp [hs, cTuple], spo_pl S' (Pl.tupI hl he) hN'⟩
          | false =>
            subst hds
            exact ⟨.own L, s ++ [.lst [.own L, .tup es]], by simp [hs, cTuple], spo_fin S' (frzT_own hs' (by omega) he (by omega)) (Pl.lstI hl he) hN'⟩
        have mono : ∀ d ∈ ds, Pl (m + 1) (w + 1) d := fun d h => (hall d h).mono (by omega) (by omega)
        have t0 : (tAnd2 (tV (eBin dGt (eCall cLen (aCons (eVar 5) aNil)) (eC (.int 0)))) (tV (eBin dLt (eVar 3) (eC (.int 8))))) [some (.own k), some d, some (.int deep), some (.int v), some (.int f), some (.own L), none, none, none] s3 = .ok true s3 := by
          have : (0 : Int) < ds.length := by omega
          simp [f3, c0.2]
          exact List.length_pos_iff.mp c0.1
        have a0 : sAsg (eBin dMod (eVar 4) (eCall cLen (aCons (eVar 5) aNil))) (gN 6) [some (.own k), some d, some (.int deep), some (.int v), some (.int f), some (.own L), none, none, none] s3 = .nx [some (.own k), some d, some (.int deep), some (.int v), some (.int f), some (.own L), some (.int a), none, none] s3 := by
          have : (0 : Int) < ds.length := by omega
          have nz : ds ≠ [] := List.length_pos_iff.mp c0.1
          simp [f3, ha, nz]
          rw [if_pos c0.1]
        have ix : ∀ u : Nat, u < ds.length → ∃ x, dIx (.own L) (.int (u : Int)) s3 = .ok x s3 ∧ ds[u]? = some x := fun u hu => ⟨ds[u], by simp [f3, hu], by simp [hu]⟩
        by_cases cA : v < 6 ∧ deep < 4
        · -- one of it spoilt
          obtain ⟨x, x1, x2⟩ := ix a hal
          have hx : x ∈ ds := List.mem_of_getElem? x2
          obtain ⟨d', s4, N', y1, y2, y3, y4, y5⟩ := spoilt_ok fu m w (N + 1 + 1) x (deep + 1) s3 k (hall x hx) (by omega) hw hw2 S3.pu (by omega) (by omega) (by omega) (by omega)
          have S4 := S3.chg y3 y4
          have f4 : s4[L]? = some (.lst ds) := (y3.oth _ (S3.ne (by omega))).trans f3
          have hL4 : L < s4.length := (List.getElem?_eq_some_iff.mp f4).1
          have S5 : SS st k N' (s4.set L (.lst (ds.set a d'))) := S4.set (by omega) _
          obtain ⟨z, s6, z1, z2⟩ := fin (ds.set a d') _ N' S5 (List.getElem?_set_self hL4) (by rw [List.length_set]; omega) (fun e he => by
            rcases List.mem_or_eq_of_mem_set he with he | he
            · exact mono e he
            · rw [he]; exact y2) (by omega)
          refine ⟨z, s6, ?_, z2⟩
          refine sSeq_ret ?_
          rw [sIf_t t0, sSeq_nx a0]
          rw [sSeq_nx (σ' := [some (.own k), some d, some (.int deep), some (.int v), some (.int f), some (.own L), some (.int a), none, none]) (st' := s4.set L (.lst (ds.set a d'))) (by
            have q : (f_law_spoilt fu) [.own k, x, .int (deep + 1)] s3 = .ok d' s4 := y1
            rw [sIf_t (st' := s3) (by simp [cA.1, cA.2])]
            have hal' : (a : Int) < ds.length := by omega
            simp only [sSub, eCallF, aCons, aNil, eVar, eBin, eC, List.getElem?_cons_succ, List.getElem?_cons_zero, R.bind, x1, lift]
            simp [q, f4, hal'])]
          exact z1
        · by_cases cB : v < 7
          · -- one of it left out
            have S5 : SS st k (N + 1 + 1) (s3.set L (.lst (ds.eraseIdx a))) := S3.set (by omega) _
            obtain ⟨z, s6, z1, z2⟩ := fin (ds.eraseIdx a) _ _ S5 (List.getElem?_set_self hLl) (by have := List.length_eraseIdx_le ds a; omega) (fun e he => mono e (List.mem_of_mem_eraseIdx he)) (by omega)
            refine ⟨z, s6, ?_, z2⟩
            refine sSeq_ret ?_
            rw [sIf_t t0, sSeq_nx a0]
            rw [sSeq_nx (σ' := [some (.own k), some d, some (.int deep), some (.int v), some (.int f), some (.own L), some (.int a), none, none]) (st' := s3.set L (.lst (ds.eraseIdx a))) (by
              rw [sIf_f (st' := s3) (by
                by_cases q1 : v < 6
                · have q2 : ¬ deep < 4 := fun z => cA ⟨q1, z⟩
                  simp [q1, q2]
                · simp [q1])]
              rw [sIf_t (st' := s3) (by simp [cB])]
              have la : (a : Int) < 16777216 := by omega
              simp [f3, mPopAt, hal, la])]
            exact z1
          · -- one of it put in again
            obtain ⟨u, s4, e4, u0, u1, c4, p4⟩ := take_ok (many := (ds.length : Int)) S3.pu (by omega) (by omega) (by omega)
            obtain ⟨u, rfl⟩ : ∃ u' : Nat, u = u' := ⟨u.toNat, by omega⟩
            have S4 := S3.chg c4 p4
            have f4 : s4[L]? = some (.lst ds) := (c4.oth _ (S3.ne (by omega))).trans f3
            have hL4 : L < s4.length := (List.getElem?_eq_some_iff.mp f4).1
            have hu : u < ds.length := by omega
            have S5 : SS st k (N + 1 + 1 + 1) (s4.set L (.lst (ds.take a ++ [ds[u]] ++ ds.drop a))) := S4.set (by omega) _
            obtain ⟨z, s6, z1, z2⟩ := fin (ds.take a ++ [ds[u]] ++ ds.drop a) _ _ S5 (List.getElem?_set_self hL4) (by simp; omega) (fun e he => by
              rcases List.mem_append.mp he with he | he
              · rcases List.mem_append.mp he with he | he
                · exact mono e (List.mem_of_mem_take he)
                · rw [List.mem_singleton.mp he]; exact mono _ (List.getElem_mem hu)
              · exact mono e (List.mem_of_mem_drop he)) (by omega)
            refine ⟨z, s6, ?_, z2⟩
            refine sSeq_ret ?_
            rw [sIf_t t0, sSeq_nx a0]
            rw [sSeq_nx (σ' := [some (.own k), some d, some (.int deep), some (.int v), some (.int f), some (.own L), some (.int a), none, none]) (st' := s4.set L (.lst (ds.take a ++ [ds[u]] ++ ds.drop a))) (by
              rw [sIf_f (st' := s3) (by
                have q1 : ¬ v < 6 := by omega
                simp [q1])]
              rw [sIf_f (st' := s3) (by simp [cB])]
              have la : (a : Int) < 16777216 := by omega
              have ll : ds.length < 16777216 := by omega
              simp [f3, f4, e4, mIns, hu, la, ll])]
            exact z1
      · -- the whole
        have t0 : (tAnd2 (tV (eBin dGt (eCall cLen (aCons (eVar 5) aNil)) (eC (.int 0)))) (tV (eBin dLt (eVar 3) (eC (.int 8))))) [some (.own k), some d, some (.int deep), some (.int v), some (.int f), some (.own L), none, none, none] s3 = .ok false s3 := by
          by_cases z : 0 < ds.length
          · have z2 : ¬ v < 8 := fun q => c0 ⟨z, q⟩
            have nz : ds ≠ [] := List.length_pos_iff.mp z
            simp [f3, z2, nz]
          · have z1 : ds = [] := List.length_eq_zero_iff.mp (by omega)
            simp [f3, z1]
        rw [sSeq_nx (σ' := [some (.own k), some d, some (.int deep), some (.int v), some (.int f), some (.own L), none, none, none]) (st' := s3) (by rw [sIf_f t0]; rfl)]
        obtain ⟨g, hg⟩ : ∃ g : Int, f % 7 = g := ⟨_, rfl⟩
        have g0 := Int.emod_nonneg f (b := 7) (by omega)
        have g1 := Int.emod_lt_of_pos f (b := 7) (by omega)
        rw [hg] at g0 g1
        have fR : (s3 ++ [Cell.lst ds.reverse])[L]? = some (.lst ds) := by rw [List.getElem?_append_left hLl]; exact f3
        obtain ⟨s4, hs4⟩ : ∃ s4, s4 = s3 ++ [Cell.lst ds.reverse, .lst ds.reverse, .lst [.own L, .tup ds, .own s3.length, .tup ds.reverse, .non, .str "none", .int 0]] := ⟨_, rfl⟩
        have S4 : SS st k (N + 1 + 1) s4 := by rw [hs4]; exact S3.app _
        have f4 : s4[L]? = some (.lst ds) := by rw [hs4, List.getElem?_append_left hLl]; exact f3
        have r4 : s4[s3.length]? = some (.lst ds.reverse) := by rw [hs4]; simp
        have pm : ∀ d ∈ ds, Pl (m + 1) (w + 1) d := fun d h => (hall d h).mono (by omega) (by omega)
        have pr : ∀ d ∈ ds.reverse, Pl (m + 1) (w + 1) d := fun d h => pm d (List.mem_reverse.mp h)
        have e : sRet (eBin dIx (eLst (aCons (eVar 5) (aCons (eCall cTuple (aCons (eVar 5) aNil)) (aCons (eRev (eVar 5)) (aCons (eCall cTuple (aCons (eRev (eVar 5)) aNil)) (aCons (eC .non) (aCons (eC (.str "none")) (aCons (eC (.int 0)) aNil)))))))) (eBin dMod (eVar 4) (eC (.int 7)))) [some (.own k), some d, some (.int deep), some (.int v), some (.int f), some (.own L), none, none, none] s3
            = (match ([.own L, .tup ds, .own s3.length, .tup ds.reverse, .non, .str "none", .int 0] : List D)[g.toNat]? with
              | some x => .ret x s4
              | none => .bad) := by
          have hgs : g = 0 ∨ g = 1 ∨ g = 2 ∨ g = 3 ∨ g = 4 ∨ g = 5 ∨ g = 6 := by omega
          rw [hs4]
          rcases hgs with rfl | rfl | rfl | rfl | rfl | rfl | rfl <;> simp [eRev, f3, fR, cTuple, hg]
        rw [e]
        have hgs : g = 0 ∨ g = 1 ∨ g = 2 ∨ g = 3 ∨ g = 4 ∨ g = 5 ∨ g = 6 := by omega
        rcases hgs with rfl | rfl | rfl | rfl | rfl | rfl | rfl
        · exact ⟨.own L, s4, rfl, spo_fin S4 (frzT_own f4 (by omega) pm (by omega)) (Pl.lstI (by omega) pm) (by omega)⟩
        · exact ⟨.tup ds, s4, rfl, spo_pl S4 (Pl.tupI (by omega) pm) (by omega)⟩
        · exact ⟨.own s3.length, s4, rfl, spo_fin S4 (frzT_own r4 (by omega) pr (by omega)) (Pl.lstI (by rw [List.length_reverse]; omega) pr) (by omega)⟩
        · exact ⟨.tup ds.reverse, s4, rfl, spo_pl S4 (Pl.tupI (by rw [List.length_reverse]; omega) pr) (by omega)⟩
        · exact ⟨.non, s4, rfl, spo_pl S4 Pl.non (by omega)⟩
        · exact ⟨.str "none", s4, rfl, spo_pl S4 (Pl.str ⟨by have : ("none" : Str).length = 4 := by decide +kernel
                                                             omega, by decide +kernel⟩) (by omega)⟩
        · exact ⟨.int 0, s4, rfl, spo_pl S4 Pl.int (by omega)⟩
    rcases hd.isTy (st := st) with ⟨e, ds, rfl⟩ | ⟨e, ds, rfl⟩ | ⟨e, i, rfl⟩ | ⟨e, b, rfl⟩ | ⟨e, z, rfl⟩ | ⟨e, rfl⟩
    · obtain ⟨x, s, hr, q⟩ := seq ds true rfl
      rw [sSeq_ret hr]
      exact q
    · obtain ⟨x, s, hr, q⟩ := seq ds false rfl
      rw [sSeq_ret hr]
      exact q
    · -- a number
      rw [sSeq_nx (σ' := [some (.own k), some (.int i), some (.int deep), some (.int v), some (.int f), none, none, none, none]) (st' := s2) (by simp [cIsi2])]
      rw [sSeq_nx (σ' := [some (.own k), some (.int i), some (.int deep), some (.int v), some (.int f), none, none, none, none]) (st' := s2) (by simp)]
      rw [sSeq_nx (σ' := [some (.own k), some (.int i), some (.int deep), some (.int v), some (.int f), none, none, none, none]) (st' := s2) (by simp [dIs, Fx.isNon])]
      obtain ⟨zs, hzs⟩ : ∃ zs, zs = Str.ofString (toString f) := ⟨_, rfl⟩
      have hs : cStr [.int f] s2 = .ok (.str zs) s2 := by
        unfold cStr
        dsimp only
        rw [if_pos, hzs]
        have : f.natAbs < 60 := by omega
        exact Nat.lt_of_le_of_lt (Nat.log2_le_self _) (by omega)
      have hz : okT 40 zs := by
        rw [hzs]
        obtain ⟨q, rfl⟩ : ∃ q : Nat, f = q := ⟨f.toNat, by omega⟩
        exact strN ⟨q, by omega⟩
      have S3 := S2.app [.lst [.int (i + 1), .int (i - 1), .int (i + 2), .int (-i), .int f, .int (i + 10 ^ 30), .bl true, .str zs, .non, .tup [.int i]]]
      have hv : v = 0 ∨ v = 1 ∨ v = 2 ∨ v = 3 ∨ v = 4 ∨ v = 5 ∨ v = 6 ∨ v = 7 ∨ v = 8 ∨ v = 9 := by omega
      have pt : Pl (n + 1) (w + 1) (.tup [.int i]) := Pl.tupI (by simp) fun d hd => by
        rw [List.mem_singleton.mp hd]
        exact Pl.int
      rcases hv with rfl | rfl | rfl | rfl | rfl | rfl | rfl | rfl | rfl | rfl <;> simp [hs] <;> simp at S3
      all_goals first | exact spo_pl S3 Pl.int (by omega) | exact spo_pl S3 Pl.bl (by omega) | exact spo_pl S3 Pl.non (by omega) | exact spo_pl S3 pt (by omega) | exact spo_pl S3 (Pl.str ⟨by have := hz.1; omega, hz.2⟩) (by omega)
    · -- a truth
      rw [sSeq_nx (σ' := [some (.own k), some (.bl b), some (.int deep), some (.int v), some (.int f), none, none, none, none]) (st' := s2) (by simp [cIsi2])]
      rw [sSeq_nx (σ' := [some (.own k), some (.bl b), some (.int deep), some (.int v), some (.int f), none, none, none, none]) (st' := s2) (by simp)]
      have S3 := S2.app [.lst [], .lst [.int 0, .int 1, .bl true, .bl false, .non, .str "True", .tup [], .own s2.length, .tup [.bl true], .int (-1)]]
      have hv : v = 0 ∨ v = 1 ∨ v = 2 ∨ v = 3 ∨ v = 4 ∨ v = 5 ∨ v = 6 ∨ v = 7 ∨ v = 8 ∨ v = 9 := by omega
      have pt : Pl (n + 1) (w + 1) (.tup [.bl true]) := Pl.tupI (by simp) fun d hd => by
        rw [List.mem_singleton.mp hd]
        exact Pl.bl
      have pt0 : Pl (n + 1) (w + 1) (.tup []) := Pl.tupI (by simp) fun d hd => by cases hd
      have pl0 : Pl (n + 1) (w + 1) (.lst []) := Pl.lstI (by simp) fun d hd => by cases hd
      have q7 : (s2 ++ [Cell.lst [], .lst [.int 0, .int 1, .bl true, .bl false, .non, .str "True", .tup [], .own s2.length, .tup [.bl true], .int (-1)]])[s2.length]? = some (.lst []) := by simp
      have fz := frzT_own (n := 0) (w := 0) (i := st.length) q7 S2.len (fun d hd => by cases hd) (by omega)
      have sT : okT (w + 1) "True" := ⟨by have : ("True" : Str).length = 4 := by decide +kernel
                                          omega, by decide +kernel⟩
      rcases hv with rfl | rfl | rfl | rfl | rfl | rfl | rfl | rfl | rfl | rfl <;> simp [dIs, Fx.isNon] <;> try simp at S3
      all_goals first | exact spo_pl S3 Pl.int (by omega) | exact spo_pl S3 Pl.bl (by omega) | exact spo_pl S3 Pl.non (by omega) | exact spo_pl S3 pt (by omega) | exact spo_pl S3 pt0 (by omega) | exact spo_pl S3 (Pl.str sT) (by omega) | exact spo_fin S3 fz pl0 (by omega)
    · -- a text
      rw [sSeq_nx (σ' := [some (.own k), some (.str z), some (.int deep), some (.int v), some (.int f), none, none, none, none]) (st' := s2) (by simp [cIsi2])]
      have hz := Pl.str' hd
      have hzl : z.length ≤ 16777216 := by have := hz.1; omega
      obtain ⟨a, ha⟩ : ∃ a : Nat, f % ((z.length : Int) + 1) = a := ⟨(f % ((z.length : Int) + 1)).toNat, by have := Int.emod_nonneg f (b := (z.length : Int) + 1) (by omega); omega⟩
      have hal : a ≤ z.length := by have := Int.emod_lt_of_pos f (b := (z.length : Int) + 1) (by omega); omega
      obtain ⟨u, s3, e3, u0, u1, c3, p3⟩ := take_ok (many := 37) S2.pu (by omega) (by omega) (by omega)
      have S3 := S2.chg c3 p3
      obtain ⟨c, hc, hc2⟩ := sign_ok (st := s3) u0 u1
      have k1 := okT_cat (i := a) (j := a) hz hc2 (Nat.le_refl _)
      have k2 := okT_cut (i := a) (j := a + 1) hz (by omega)
      have k3 := okT_cat (i := a) (j := a + 1) hz hc2 (by omega)
      obtain ⟨t1, ht1⟩ : ∃ t, t = cutS z none (some (a : Int)) ++ c ++ cutS z (some (a : Int)) none := ⟨_, rfl⟩
      obtain ⟨t2, ht2⟩ : ∃ t, t = cutS z none (some (a : Int)) ++ cutS z (some ((a + 1 : Nat) : Int)) none := ⟨_, rfl⟩
      obtain ⟨t3, ht3⟩ : ∃ t, t = cutS z none (some (a : Int)) ++ c ++ cutS z (some ((a + 1 : Nat) : Int)) none := ⟨_, rfl⟩
      rw [← ht1] at k1
      rw [← ht2] at k2
      rw [← ht3] at k3
      have l1 : (cutS z none (some (a : Int))).length = a := by rw [len_to]; omega
      have l2 : (cutS z (some (a : Int)) none).length = z.length - a := len_from
      have l3 : (cutS z (some ((a : Int) + 1)) none).length = z.length - (a + 1) := len_from (j := a + 1)
      have l4 : c.length ≤ 1 := hc2.1
      have hzw : z.length ≤ w := hz.1
      have lim0 : a + c.length ≤ 16777216 := by omega
      have lim1 : a + c.length + (z.length - a) ≤ 16777216 := by omega
      have lim2 : a + (z.length - (a + 1)) ≤ 16777216 := by omega
      have lim3 : a + c.length + (z.length - (a + 1)) ≤ 16777216 := by omega
      have pos : (0 : Int) < (z.length : Int) + 1 := by omega
      rw [sSeq_eq]
      rw [sIf_t (st' := s2) (by simp)]
      rw [sSeq_nx (σ' := [some (.own k), some (.str z), some (.int deep), some (.int v), some (.int f), none, some (.int a), none, none]) (st' := s2) (by
        simp [hzl, ha, pos])]
      rw [sSeq_nx (σ' := [some (.own k), some (.str z), some (.int deep), some (.int v), some (.int f), none, some (.int a), some (.str c), none]) (st' := s3) (by
        simp [e3, -dIx, hc])]
      rw [sSeq_nx (σ' := [some (.own k), some (.str z), some (.int deep), some (.int v), some (.int f), none, some (.int a), some (.str c), some (.own s3.length)]) (st' := s3 ++ [.lst [.str t1, .str t2, .str t3]]) (by
        have q1 : cutS z none (some (a : Int)) ++ c ++ cutS z (some (a : Int)) none = t1 := ht1.symm
        have q2 : cutS z none (some (a : Int)) ++ cutS z (some ((a : Int) + 1)) none = t2 := ht2.symm
        have q3 : cutS z none (some (a : Int)) ++ c ++ cutS z (some ((a : Int) + 1)) none = t3 := ht3.symm
        simp [dSl, hzl, l1, l2, l3, len_app, lim0, lim1, lim2, lim3, q1, q2, q3])]
      have S4 := S3.app [.lst [.str t1, .str t2, .str t3], .lst [.non, .int 1], .lst [.str t1, .str t2, .str t3, .non, .int 1]]
      have hv : v = 0 ∨ v = 1 ∨ v = 2 ∨ v = 3 ∨ v = 4 ∨ v = 5 ∨ v = 6 ∨ v = 7 ∨ v = 8 ∨ v = 9 := by omega
      rcases hv with rfl | rfl | rfl | rfl | rfl | rfl | rfl | rfl | rfl | rfl <;> simp
      all_goals first | exact spo_pl S4 (Pl.str k1) (by omega) | exact spo_pl S4 (Pl.str k2) (by omega) | exact spo_pl S4 (Pl.str k3) (by omega) | exact spo_pl S4 Pl.non (by omega) | exact spo_pl S4 Pl.int (by omega)
    · -- nothing
      rw [sSeq_nx (σ' := [some (.own k), some .non, some (.int deep), some (.int v), some (.int f), none, none, none, none]) (st' := s2) (by simp [cIsi2])]
      rw [sSeq_nx (σ' := [some (.own k), some .non, some (.int deep), some (.int v), some (.int f), none, none, none, none]) (st' := s2) (by simp)]
      have S3 := S2.app [.lst [], .lst [.int 0, .int 1, .bl true, .bl false, .non, .str "True", .tup [], .own s2.length, .tup [.bl true], .int (-1)]]
      have hv : v = 0 ∨ v = 1 ∨ v = 2 ∨ v = 3 ∨ v = 4 ∨ v = 5 ∨ v = 6 ∨ v = 7 ∨ v = 8 ∨ v = 9 := by omega
      have pt : Pl (n + 1) (w + 1) (.tup [.bl true]) := Pl.tupI (by simp) fun d hd => by
        rw [List.mem_singleton.mp hd]
        exact Pl.bl
      have pt0 : Pl (n + 1) (w + 1) (.tup []) := Pl.tupI (by simp) fun d hd => by cases hd
      have pl0 : Pl (n + 1) (w + 1) (.lst []) := Pl.lstI (by simp) fun d hd => by cases hd
      have q7 : (s2 ++ [Cell.lst [], .lst [.int 0, .int 1, .bl true, .bl false, .non, .str "True", .tup [], .own s2.length, .tup [.bl true], .int (-1)]])[s2.length]? = some (.lst []) := by simp
      have fz := frzT_own (n := 0) (w := 0) (i := st.length) q7 S2.len (fun d hd => by cases hd) (by omega)
      have sT : okT (w + 1) "True" := ⟨by have : ("True" : Str).length = 4 := by decide +kernel
                                          omega, by decide +kernel⟩
      rcases hv with rfl | rfl | rfl | rfl | rfl | rfl | rfl | rfl | rfl | rfl <;> simp [dIs, Fx.isNon] <;> try simp at S3
      all_goals first | exact spo_pl S3 Pl.int (by omega) | exact spo_pl S3 Pl.bl (by omega) | exact spo_pl S3 Pl.non (by omega) | exact spo_pl S3 pt (by omega) | exact spo_pl S3 pt0 (by omega) | exact spo_pl S3 (Pl.str sT) (by omega) | exact spo_fin S3 fz pl0 (by omega)
end K57

set_option Elab.async false
set_option linter.all false
set_option maxRecDepth 100000
set_option maxHeartbeats 1000000
namespace K57
open PySem PySem.Spec PyProof.Rows L2 Fx
theorem dNe_bl {st : Store} {a b : Bool} : dNe (.bl a) (.bl b) st = .ok (.bl (!decide (a = b))) st := rfl
theorem dNe_str {st : Store} {a b : Str} : dNe (.str a) (.str b) st = .ok (.bl (!decide (a = b))) st := rfl
theorem purse_ok {ns : List Int} {i : Nat} {st : Store} (hi : i < 1000) : ∃ st', f_law_purse [.rol (ns.map .int), .int (i : Int)] st = .ok (.own st.length) st' ∧ Purse st' st.length 0 := by
  have key : ∀ (c : Int), ∃ a b : Int, 0 ≤ a ∧ 0 ≤ b ∧ b < 2147483648 ∧ (a = (if c < 0 then -c else c) * (if 1000000000000000000 ≤ (if c < 0 then -c else c) then 1 else 0)) ∧ b = (c % 2147483647 + 7919 * i + 17) % 2147483647 := fun c => by
    refine ⟨_, _, ?_, Int.emod_nonneg _ (by omega), ?_, rfl, rfl⟩
    · apply Int.mul_nonneg
      · split <;> omega
      · split <;> omega
    · have := Int.emod_lt_of_pos (c % 2147483647 + 7919 * i + 17) (b := 2147483647) (by omega)
      omega
  by_cases h : i < ns.length
  · obtain ⟨a, b, h1, h2, h3, ha, hb⟩ := key ns[i]
    refine ⟨st ++ [.lst [.int a, .int b, .int 0]], ?_, a, b, 0, h1, h2, h3, by omega, by omega, by simp⟩
    have h' : (i : Int) < ns.length := by omega
    simp only [f_law_purse, runR, b_law_purse, List.length_cons, List.length_nil, if_true, startD]
    rw [sSeq_nx (σ' := [some (.rol (ns.map .int)), some (.int (i : Int)), some (.int 0), none]) (st' := st) (by simp)]
    rw [sSeq_nx (σ' := [some (.rol (ns.map .int)), some (.int (i : Int)), some (.int ns[i]), none]) (st' := st) (by simp [h])]
    rw [sSeq_nx (σ' := [some (.rol (ns.map .int)), some (.int (i : Int)), some (.int ns[i]), some (.int (if ns[i] < 0 then -ns[i] else ns[i]))]) (st' := st) (by simp)]
    generalize (if ns[i] < 0 then -ns[i] else ns[i]) = far at *
    by_cases q : 1000000000000000000 ≤ far
    · rw [if_pos q] at ha
      simp [q, ha, hb]
    · rw [if_neg q] at ha
      simp [q, ha, hb]
  · refine ⟨st ++ [.lst [.int 0, .int ((7919 * i + 17) % 2147483647), .int 0]], ?_, 0, (7919 * i + 17) % 2147483647, 0, by omega, Int.emod_nonneg _ (by omega), ?_, by omega, by omega, by simp⟩
    · have h' : ¬ (i : Int) < ns.length := by omega
      simp [f_law_purse, runR, b_law_purse, h]
    · have := Int.emod_lt_of_pos ((7919 * (i : Int) + 17)) (b := 2147483647) (by omega)
      omega
theorem say_cases {a b : D} : (∃ z, sayD a b = .str z) ∨ ∃ is : List Int, sayD a b = .tup (is.map .int) := by
  unfold sayD
  cases e1 : surrD a with
  | false => exact .inl ⟨_, rfl⟩
  | true =>
    cases e2 : termD b with
    | false => exact .inl ⟨_, rfl⟩
    | true =>
      obtain ⟨is, rfl, p1⟩ := surr_of e1
      obtain ⟨js, rfl, p2⟩ := term_of e2
      simp only [if_true, intsOf_mapI]
      split
      · exact .inl ⟨_, rfl⟩
      · exact .inr ⟨_, rfl⟩
theorem sFor_rng {a : EA} {g : GE} {body : SE} {n : Nat} {σ : Slots} {st st1 : Store} (h : a σ st = .ok [.int (n : Int)] st1) (hn : n ≤ 1000000) : sFor (iRng1' a) g body σ st = forL g body ((List.range n).map fun (i : Nat) => D.int (i : Int)) σ st1 := by
  unfold sFor iRng1'
  rw [h]
  simp only [R.bind_ok]
  rw [if_pos (by omega)]
  exact forLoop_rng
theorem Purse.far {s : Store} {k n : Nat} (h : Purse s k n) : k < s.length := by
  obtain ⟨_, _, _, _, _, _, _, _, e⟩ := h
  exact (List.getElem?_eq_some_iff.mp e).1
theorem law_true (ns : List Int) (hns : ns.length ≤ 63) : ∃ st, f_law [.rol (ns.map .int)] [] = .ok (.bl true) st := by
  unfold f_law runF b_law
  have st0 : startD 10 [.rol (ns.map .int)] = [some (.rol (ns.map .int)), none, none, none, none, none, none, none, none, none] := rfl
  simp only [List.length_cons, List.length_nil, if_true, st0]
  obtain ⟨m, hm2, hm⟩ : ∃ m : Nat, m ≤ 20 ∧ ∀ σ9 : Slots, (aCons (eCall cMax (aCons (eC (.int 4)) (aCons (eCall cMin (aCons (eCall cLen (aCons (eVar 0) aNil)) (aCons (eC (.int 20)) aNil))) aNil))) aNil) (some (.rol (ns.map .int)) :: σ9) [] = .ok [.int (m : Int)] [] := by
    by_cases h1 : 20 < ns.length
    · have h1' : (20 : Int) < ns.length := by omega
      refine ⟨20, by omega, fun σ9 => ?_⟩
      simp [h1']
    · have h1' : ¬ (20 : Int) < ns.length := by omega
      by_cases h2 : 4 < ns.length
      · have h2' : (4 : Int) < ns.length := by omega
        refine ⟨ns.length, by omega, fun σ9 => ?_⟩
        simp [h1', h2']
      · have h2' : ¬ (4 : Int) < ns.length := by omega
        refine ⟨4, by omega, fun σ9 => ?_⟩
        simp [h1', h2']
  rw [sSeq_eq, sFor_rng (hm _) (by omega)]
  generalize hr : forL _ _ _ _ _ = r
  have L := forL_at (Inv := fun ds σ s => (∃ x1 x2 x3 x4 x5 x6 x7 x8 x9, σ = [some (.rol (ns.map .int)), x1, x2, x3, x4, x5, x6, x7, x8, x9]) ∧ ∀ d ∈ ds, ∃ i : Nat, i < 1000 ∧ d = D.int (i : Int))
    (Q := fun r => ∃ σ s, r = .nx σ s) hr ⟨⟨none, none, none, none, none, none, none, none, none, rfl⟩, fun d hd => by
      obtain ⟨i, hi, rfl⟩ := List.mem_map.mp hd
      exact ⟨i, by have := List.mem_range.mp hi; omega, rfl⟩⟩ ?_ fun σ s _ => ⟨σ, s, rfl⟩
  · obtain ⟨σ, s, rfl⟩ := L
    have := @finD_blA [] s true
    rw [List.nil_append] at this
    exact ⟨[], by simp [this]⟩
  · rintro d ds σ s ⟨⟨x1, x2, x3, x4, x5, x6, x7, x8, x9, rfl⟩, hds⟩
    obtain ⟨i, hi, rfl⟩ := hds d List.mem_cons_self
    have hrest : ∀ d ∈ ds, ∃ i : Nat, i < 1000 ∧ d = D.int (i : Int) := fun d hd => hds d (List.mem_cons_of_mem _ hd)
    refine ⟨[some (.rol (ns.map .int)), some (.int (i : Int)), x2, x3, x4, x5, x6, x7, x8, x9], rfl, ?_⟩
    obtain ⟨s1, e1, p1⟩ := purse_ok (ns := ns) (st := s) hi
    rw [sSeq_nx (σ' := [some (.rol (ns.map .int)), some (.int (i : Int)), some (.own s.length), x3, x4, x5, x6, x7, x8, x9]) (st' := s1) (by simp [e1])]
    have A1 := SS.start p1
    -- changes
    have A2 := A1.app [.lst [.int 0, .int 1, .int 1, .int 2]]
    have g2 : (s1 ++ [Cell.lst [.int 0, .int 1, .int 1, .int 2]])[s1.length]? = some (.lst [.int 0, .int 1, .int 1, .int 2]) := by simp
    obtain ⟨v, s3, e3, v0, v1, c3, p3⟩ := take_ok (many := 4) A2.pu (by omega) (by omega) (by omega)
    have A3 := A2.chg c3 p3
    have g3 : s3[s1.length]? = some (.lst [.int 0, .int 1, .int 1, .int 2]) := (c3.oth _ (A2.ne (Nat.le_refl _))).trans g2
    obtain ⟨c, hc, hcd⟩ : ∃ c : Nat, c ≤ 2 ∧ dIx (.own s1.length) (.int v) s3 = .ok (.int (c : Int)) s3 := by
      have hv : v = 0 ∨ v = 1 ∨ v = 2 ∨ v = 3 := by omega
      rcases hv with rfl | rfl | rfl | rfl
      · exact ⟨0, by omega, by simp [g3]⟩
      · exact ⟨1, by omega, by simp [g3]⟩
      · exact ⟨1, by omega, by simp [g3]⟩
      · exact ⟨2, by omega, by simp [g3]⟩
    rw [sSeq_nx (σ' := [some (.rol (ns.map .int)), some (.int (i : Int)), some (.own s.length), some (.int (c : Int)), x4, x5, x6, x7, x8, x9]) (st' := s3) (by simp [e3, -dIx, hcd])]
    -- which
    obtain ⟨h, s4, e4, h0, h1, c4, p4⟩ := take_ok (many := 4) A3.pu (by omega) (by omega) (by omega)
    have A4 := A3.chg c4 p4
    rw [sSeq_nx (σ' := [some (.rol (ns.map .int)), some (.int (i : Int)), some (.own s.length), some (.int (c : Int)), some (.int h), x5, x6, x7, x8, x9]) (st' := s4) (by simp [e4])]
    -- a surrounding
    obtain ⟨u, s5, e5, u0, u1, c5, p5⟩ := take_ok (many := 60) A4.pu (by omega) (by omega) (by omega)
    have A5 := A4.chg c5 p5
    obtain ⟨os, s6, n6, e6, c6, p6, b6, l6⟩ := mk_around_ok (most := 1 + u) A5.pu (by omega) (by omega) (by omega)
    have A6 := A5.chg c6 p6
    rw [sSeq_nx (σ' := [some (.rol (ns.map .int)), some (.int (i : Int)), some (.own s.length), some (.int (c : Int)), some (.int h), some (.tup (os.map .int)), x6, x7, x8, x9]) (st' := s6) (by simp [e5, e6])]
    -- a term
    obtain ⟨u2, s7, e7, u20, u21, c7, p7⟩ := take_ok (many := 60) A6.pu (by omega) (by omega) (by omega)
    have A7 := A6.chg c7 p7
    obtain ⟨ts, s8, n8, e8, c8, p8, b8, l8, _, _⟩ := law_term_ok (most := 1 + u2) (spots := 3) A7.pu (by omega) (by omega) (by omega) (by omega) (by omega)
    have A8 := A7.chg c8 p8
    rw [sSeq_nx (σ' := [some (.rol (ns.map .int)), some (.int (i : Int)), some (.own s.length), some (.int (c : Int)), some (.int h), some (.tup (os.map .int)), some (.tup (ts.map .int)), x7, x8, x9]) (st' := s8) (by simp [e7, e8])]
    obtain ⟨u3, s9, e9, u30, u31, c9, p9⟩ := take_ok (many := 8) A8.pu (by omega) (by omega) (by omega)
    have A9 := A8.chg c9 p9
    have big : ∃ (t : List Int) (s' : Store) (N : Nat), t.length ≤ 20001 ∧ SS s1 s.length N s' ∧ N ≤ 2000 ∧
        (sIf (tAnd2 (tV (eBin dEq (eCallF 2 f_law_take (aCons (eVar 2) (aCons (eC (.int 8)) aNil))) (eC (.int 5)))) (tV (eBin dEq (eVar 1) (eC (.int 0)))))
          (sAsg (eBin dAdd (eBin dMul (eTup (aCons (eUn dNeg (eC (.int 1))) aNil)) (eBin dSub (eC (.int 19999)) (eCallF 2 f_law_take (aCons (eVar 2) (aCons (eC (.int 60)) aNil))))) (eTup (aCons (eCallF 2 f_law_take (aCons (eVar 2) (aCons (eC (.int 9)) aNil))) aNil))) (gN 6))
          sPass) [some (.rol (ns.map .int)), some (.int (i : Int)), some (.own s.length), some (.int (c : Int)), some (.int h), some (.tup (os.map .int)), some (.tup (ts.map .int)), x7, x8, x9] s8 = .nx [some (.rol (ns.map .int)), some (.int (i : Int)), some (.own s.length), some (.int (c : Int)), some (.int h), some (.tup (os.map .int)), some (.tup (t.map .int)), x7, x8, x9] s' := by
      by_cases q : u3 = 5 ∧ i = 0
      · obtain ⟨q1, q2⟩ := q
        obtain ⟨u4, s10, e10, u40, u41, c10, p10⟩ := take_ok (many := 60) A9.pu (by omega) (by omega) (by omega)
        have A10 := A9.chg c10 p10
        obtain ⟨u5, s11, e11, u50, u51, c11, p11⟩ := take_ok (many := 9) A10.pu (by omega) (by omega) (by omega)
        have A11 := A10.chg c11 p11
        obtain ⟨z, hz⟩ : ∃ z : Nat, (19999 - u4 : Int) = z := ⟨(19999 - u4).toNat, by omega⟩
        refine ⟨List.replicate z (-1) ++ [u5], s11, _, by simp; omega, A11, by omega, ?_⟩
        have fl : (List.replicate z [D.int (-1)]).flatten = (List.replicate z (-1 : Int)).map D.int := by
          rw [List.map_replicate]
          induction z with
          | zero => rfl
          | succ z ih => simp
        have z1 : z ≤ 1000000 := by omega
        have z2 : (2 : Int) ≤ z := by omega
        have z3 : (z : Int) ≤ 1000000 := by omega
        have z4 : z + 1 ≤ 16777216 := by omega
        subst q1 q2
        simp [e9, dEq_int, e10, hz, z1, z2, z3, fl, e11, z4]
      · refine ⟨ts, s9, _, by omega, A9, by omega, ?_⟩
        by_cases q1 : u3 = 5
        · have q2 : ¬ i = 0 := fun z => q ⟨q1, z⟩
          simp [e9, dEq_int, q1, q2]
        · simp [e9, dEq_int, q1]
    obtain ⟨t0, sA, NA, tl, AA, NAb, eA⟩ := big
    rw [sSeq_nx eA]
    -- spoiling
    rw [sSeq_eq, sFor_rng (n := c) (st1 := sA) (by simp) (by omega)]
    generalize hr2 : forL _ _ _ _ _ = r2
    have L2 := forL_at (Inv := fun ds σ s' => ∃ (j N : Nat) (o t : D) (x7 : Option D), j + ds.length = c ∧ Pl (1 + j) (20001 + j) o ∧ Pl (1 + j) (20001 + j) t ∧ SS s1 s.length N s' ∧ N ≤ 2000 + 100 * j ∧ σ = [some (.rol (ns.map .int)), some (.int (i : Int)), some (.own s.length), some (.int (c : Int)), some (.int h), some o, some t, x7, x8, x9])
      (Q := fun r => ∃ (N : Nat) (o t : D) (x7 : Option D) (s' : Store), r = .nx [some (.rol (ns.map .int)), some (.int (i : Int)), some (.own s.length), some (.int (c : Int)), some (.int h), some o, some t, x7, x8, x9] s' ∧ Pl 3 20003 o ∧ Pl 3 20003 t) hr2 ⟨0, NA, .tup (os.map .int), .tup (t0.map .int), x7, by simp, Pl.ints (by omega), Pl.ints tl, AA, NAb, rfl⟩ ?_ ?_
    · obtain ⟨N, o, t, y7, sB, rfl, po, pt⟩ := L2
      dsimp only
      have W1 := fun st => is_surr_ok (st := st) po
      have W2 := fun st => law_around_ok (st := st) po (by omega) (by omega)
      have W3 := fun st => due_ok (st := st) po pt (by omega) (by omega) (by omega) (by omega)
      have W4 := fun st => say_ok (st := st) po pt
      rw [sSeq_nx (σ' := [some (.rol (ns.map .int)), some (.int (i : Int)), some (.own s.length), some (.int (c : Int)), some (.int h), some o, some t, y7, some (.bl (surrD o)), x9]) (st' := sB) (by simp [W1])]
      rw [sSeq_nx (σ' := [some (.rol (ns.map .int)), some (.int (i : Int)), some (.own s.length), some (.int (c : Int)), some (.int h), some o, some t, y7, some (.bl (surrD o)), x9]) (st' := sB) (by simp [W2, dNe_bl])]
      rw [sSeq_nx (σ' := [some (.rol (ns.map .int)), some (.int (i : Int)), some (.own s.length), some (.int (c : Int)), some (.int h), some o, some t, y7, some (.bl (surrD o)), some (sayD o t)]) (st' := sB) (by simp [W3])]
      rw [sSeq_nx (σ' := [some (.rol (ns.map .int)), some (.int (i : Int)), some (.own s.length), some (.int (c : Int)), some (.int h), some o, some t, y7, some (sayD o t), some (sayD o t)]) (st' := sB) (by simp [W4])]
      rw [sIf_f (st' := sB) (by
        rcases say_cases (a := o) (b := t) with ⟨z, hz⟩ | ⟨is, hz⟩
        · rw [hz]
          simp [dNe_str]
        · rw [hz]
          simp [dNe_ints])]
      exact ⟨⟨_, _, _, _, _, _, _, _, _, rfl⟩, hrest⟩
    · rintro d2 ds2 σ s' ⟨j, N, o, t, y7, hj, po, pt, A, hN, rfl⟩
      rw [List.length_cons] at hj
      refine ⟨[some (.rol (ns.map .int)), some (.int (i : Int)), some (.own s.length), some (.int (c : Int)), some (.int h), some o, some t, some d2, x8, x9], rfl, ?_⟩
      by_cases hh : h = 0
      · obtain ⟨d', s'', N', r1, r2, r3, r4, r5⟩ := spoilt_ok 8 (1 + j) (20001 + j) N t 0 s' s.length pt (by omega) (by omega) (by omega) A.pu (by omega) (by omega) (by omega) (by omega)
        rw [sIf_t (st' := s') (by simp [dEq_int, hh])]
        have e : (sAsg (eCallF 3 (f_law_spoilt 8) (aCons (eVar 2) (aCons (eVar 6) (aCons (eC (.int 0)) aNil)))) (gN 6)) [some (.rol (ns.map .int)), some (.int (i : Int)), some (.own s.length), some (.int (c : Int)), some (.int h), some o, some t, some d2, x8, x9] s' = .nx [some (.rol (ns.map .int)), some (.int (i : Int)), some (.own s.length), some (.int (c : Int)), some (.int h), some o, some d', some d2, x8, x9] s'' := by simp [r1]
        rw [e]
        exact ⟨j + 1, N', o, d', some d2, by omega, po.mono (by omega) (by omega), r2.mono (by omega) (by omega), A.chg r3 r4, by omega, rfl⟩
      · obtain ⟨d', s'', N', r1, r2, r3, r4, r5⟩ := spoilt_ok 8 (1 + j) (20001 + j) N o 0 s' s.length po (by omega) (by omega) (by omega) A.pu (by omega) (by omega) (by omega) (by omega)
        rw [sIf_f (st' := s') (by simp [dEq_int, hh])]
        have e : (sAsg (eCallF 3 (f_law_spoilt 8) (aCons (eVar 2) (aCons (eVar 5) (aCons (eC (.int 0)) aNil)))) (gN 5)) [some (.rol (ns.map .int)), some (.int (i : Int)), some (.own s.length), some (.int (c : Int)), some (.int h), some o, some t, some d2, x8, x9] s' = .nx [some (.rol (ns.map .int)), some (.int (i : Int)), some (.own s.length), some (.int (c : Int)), some (.int h), some d', some t, some d2, x8, x9] s'' := by simp [r1]
        rw [e]
        exact ⟨j + 1, N', d', t, some d2, by omega, r2.mono (by omega) (by omega), pt.mono (by omega) (by omega), A.chg r3 r4, by omega, rfl⟩
    · rintro σ s' ⟨j, N, o, t, y7, hj, po, pt, A, hN, rfl⟩
      have : j ≤ 2 := by simp at hj; omega
      exact ⟨N, o, t, y7, s', rfl, po.mono (by omega) (by omega), pt.mono (by omega) (by omega)⟩
end K57

theorem PySem.Challenge.cw_rowapart_k57_surroundings_holds : PySem.Challenge.rw_rowapart_k57_surroundings.Holds :=
  K57.holds_of K57.law_true
