import PyProof.Rows.All
import HandS.ForMost
import HandS.ForExc
import HandS.Deep
import HandS.Flow
import KE.SortData
import KE.SortKeyHeap
import KE.Datum
import HandS.TupAny
import HandS.Style
import KE.DataCmp
import KE.DataIsa
import KE.DataAny
import PyProof.ReprRoads
import HandS.Star
import HandS.CallLocal
import HandS.SortKw
import HandS.SortInts
import KE.KSortKey
import PyProof.CallFns
import HandS.Small
import HandS.Exc
import KE.SortCalls
import PyProof.Rows.CallKwBuiltin
import HandS.Ends
import HandS.TupSets
import HandS.SetKeys
import HandS.SetBool
import PyProof.Rows.SetFrom
import KE.DatumOrd
import HandS.Comp
import PySem.Challenge.RW_crewbook_k19_several_losses
import OpenK.KWalk
import OpenK.KLine
set_option Elab.async false
set_option linter.all false
set_option maxRecDepth 100000
/-! Cb, part A: plain data, the list memory, what a value stands for, and how states follow one another. -/
namespace Cb
open PySem PySem.Spec PyProof.Rows L2

abbrev P := PyData
/-- an object that may change -/
inductive MObj where
  | dead
  | lst (xs : List P)
  | dct (kvs : List (P × P))
def MObj.alive : MObj → Bool
  | .dead => false
  | _ => true
def MObj.toP : MObj → P
  | .dead => .none
  | .lst xs => .list xs
  | .dct kvs => .dict kvs
inductive D where
  | p (d : P)
  | obj (n : Nat)
  | fn (id : Nat)
  | ty (n : String)
  /-- the script -/
  | frz (xs : List P)
inductive Ev where
  | d (d : D)
  | new (o : MObj)
abbrev Mem := List MObj
/-- an exception: its class by number, its fields -/
structure Xc where
  cls : Nat
  fs : Option (List (Str × P))
inductive Res (α : Type) where
  | ok (a : α) (M : Mem)
  | err (x : Xc) (M : Mem)
  | bad
def Res.bind {α β : Type} : Res α → (α → Mem → Res β) → Res β
  | .ok a M, f => f a M
  | .err x M, _ => .err x M
  | .bad, _ => .bad
def Res.map {α β : Type} (f : α → β) : Res α → Res β
  | .ok a M => .ok (f a) M
  | .err x M => .err x M
  | .bad => .bad
@[simp] theorem Res.bind_ok {α β : Type} (a : α) (M : Mem) (f : α → Mem → Res β) : (Res.ok a M).bind f = f a M := rfl
@[simp] theorem Res.bind_err {α β : Type} (x : Xc) (M : Mem) (f : α → Mem → Res β) : (Res.err x M : Res α).bind f = .err x M := rfl
@[simp] theorem Res.bind_bad {α β : Type} (f : α → Mem → Res β) : (Res.bad : Res α).bind f = .bad := rfl
@[simp] theorem Res.map_ok {α β : Type} (a : α) (M : Mem) (f : α → β) : (Res.ok a M).map f = .ok (f a) M := rfl
@[simp] theorem Res.map_err {α β : Type} (x : Xc) (M : Mem) (f : α → β) : (Res.err x M : Res α).map f = .err x M := rfl
@[simp] theorem Res.map_bad {α β : Type} (f : α → β) : (Res.bad : Res α).map f = .bad := rfl
theorem Res.bind_assoc {α β γ : Type} (r : Res α) (f : α → Mem → Res β) (g : β → Mem → Res γ) : (r.bind f).bind g = r.bind fun a M => (f a M).bind g := by
  cases r <;> rfl
def Ev.stl : Ev → D
  | .d x => x
  | .new o => .p o.toP
@[simp] theorem Ev.stl_d (x : D) : (Ev.d x).stl = x := rfl
@[simp] theorem Ev.stl_new (o : MObj) : (Ev.new o).stl = .p o.toP := rfl
def stl (r : Res Ev) : Res D := r.map Ev.stl
@[simp] theorem stl_ok (e : Ev) (M : Mem) : stl (.ok e M) = .ok e.stl M := rfl
@[simp] theorem stl_err (x : Xc) (M : Mem) : stl (.err x M) = .err x M := rfl
@[simp] theorem stl_bad : stl .bad = .bad := rfl

/-! ### what a value stands for -/
def keyP : Key → P
  | .inl i => .int i
  | .inr x => .str x
mutual
/-- the value v reads as the data d; Fb: what may change, or is being made -/
inductive Rp (K : PySem.W.Frag) (H : Hp) (Fb : Addr → Prop) : V → P → Prop
  | non : Rp K H Fb .non .none
  | bl (b : Bool) : Rp K H Fb (.bl b) (.bool b)
  | int (i : Int) : Rp K H Fb (.int i) (.int i)
  | str (x : Str) (h : x.length ≤ sizeLine) : Rp K H Fb (.str x) (.str x)
  | lst {a : Addr} {xs : List V} {ds : List P} (h : H a = some (.lst xs)) (hn : ¬ Fb a) (r : RpAll K H Fb xs ds) : Rp K H Fb (.ref a) (.list ds)
  | tup {a : Addr} {xs : List V} {ds : List P} (h : Rd H a (.tup xs)) (hn : ¬ Fb a) (r : RpAll K H Fb xs ds) : Rp K H Fb (.ref a) (.tuple ds)
  | tupK {a : Addr} {xs : List V} {ds : List P} {o : Obj} {its : Array Value} {n : Nat} (h1 : K.lookup a = some o) (h2 : o.cls = .type "tuple") (h3 : o.data = .seq its n) (h4 : its.size ≤ sizeLine) (h5 : Vals xs its.toList) (r : RpAll K H Fb xs ds) : Rp K H Fb (.ref a) (.tuple ds)
  | dct {a : Addr} {kvs : List (Key × V)} {ds : List (P × P)} (h : Rd H a (.dK kvs)) (hn : ¬ Fb a) (r : RpKV K H Fb kvs ds) : Rp K H Fb (.ref a) (.dict ds)
inductive RpAll (K : PySem.W.Frag) (H : Hp) (Fb : Addr → Prop) : List V → List P → Prop
  | nil : RpAll K H Fb [] []
  | cons {v : V} {vs : List V} {d : P} {ds : List P} (h : Rp K H Fb v d) (t : RpAll K H Fb vs ds) : RpAll K H Fb (v :: vs) (d :: ds)
inductive RpKV (K : PySem.W.Frag) (H : Hp) (Fb : Addr → Prop) : List (Key × V) → List (P × P) → Prop
  | nil : RpKV K H Fb [] []
  | cons {k : Key} {v : V} {vs : List (Key × V)} {d : P} {ds : List (P × P)} (h : Rp K H Fb v d) (t : RpKV K H Fb vs ds) : RpKV K H Fb ((k, v) :: vs) ((keyP k, d) :: ds)
end

/-- the abstract heap goes on: what was tracked and known unchanging stays -/
structure Keeps (H : Hp) (Fb : Addr → Prop) (H' : Hp) (Fb' : Addr → Prop) : Prop where
  keep : ∀ a o, H a = some o → ¬ Fb a → H' a = some o ∧ ¬ Fb' a
theorem Keeps.rd {H H' : Hp} {Fb Fb' : Addr → Prop} (k : Keeps H Fb H' Fb') {a : Addr} {o : HO} (h : Rd H a o) (hn : ¬ Fb a) : Rd H' a o ∧ ¬ Fb' a := by
  rcases h with h | ⟨u, h⟩
  · exact ⟨.inl (k.keep a _ h hn).1, (k.keep a _ h hn).2⟩
  · exact ⟨.inr ⟨u, (k.keep a _ h hn).1⟩, (k.keep a _ h hn).2⟩
theorem Keeps.trans {H H' H2 : Hp} {Fb Fb' Fb2 : Addr → Prop} (k : Keeps H Fb H' Fb') (j : Keeps H' Fb' H2 Fb2) : Keeps H Fb H2 Fb2 :=
  ⟨fun a o h n => j.keep a o (k.keep a o h n).1 (k.keep a o h n).2⟩
theorem Keeps.refl {H : Hp} {Fb : Addr → Prop} : Keeps H Fb H Fb := ⟨fun _ _ h n => ⟨h, n⟩⟩
mutual
theorem Rp.ext {K : PySem.W.Frag} {H H' : Hp} {Fb Fb' : Addr → Prop} (k : Keeps H Fb H' Fb') : ∀ (d : P) (v : V), Rp K H Fb v d → Rp K H' Fb' v d
  | .none, _, h => by cases h; exact .non
  | .bool _, _, h => by cases h; exact .bl _
  | .int _, _, h => by cases h; exact .int _
  | .str _, _, h => by cases h with | str _ h => exact .str _ h
  | .list ds, _, h => by cases h with | lst h hn r => exact .lst (k.keep _ _ h hn).1 (k.keep _ _ h hn).2 (RpAll.ext k ds _ r)
  | .tuple ds, _, h => by
    cases h with
    | tup h hn r => exact .tup (k.rd h hn).1 (k.rd h hn).2 (RpAll.ext k ds _ r)
    | tupK h1 h2 h3 h4 h5 r => exact .tupK h1 h2 h3 h4 h5 (RpAll.ext k ds _ r)
  | .dict ds, _, h => by cases h with | dct h hn r => exact .dct (k.rd h hn).1 (k.rd h hn).2 (RpKV.ext k ds _ r)
theorem RpAll.ext {K : PySem.W.Frag} {H H' : Hp} {Fb Fb' : Addr → Prop} (k : Keeps H Fb H' Fb') : ∀ (ds : List P) (vs : List V), RpAll K H Fb vs ds → RpAll K H' Fb' vs ds
  | [], _, h => by cases h; exact .nil
  | d :: ds, _, h => by cases h with | cons h t => exact .cons (Rp.ext k d _ h) (RpAll.ext k ds _ t)
theorem RpKV.ext {K : PySem.W.Frag} {H H' : Hp} {Fb Fb' : Addr → Prop} (k : Keeps H Fb H' Fb') : ∀ (ds : List (P × P)) (vs : List (Key × V)), RpKV K H Fb vs ds → RpKV K H' Fb' vs ds
  | [], _, h => by cases h; exact .nil
  | (_, d) :: ds, _, h => by cases h with | cons h t => exact .cons (Rp.ext k d _ h) (RpKV.ext k ds _ t)
end
section
variable {K : PySem.W.Frag} {H H' : Hp} {Fb Fb' : Addr → Prop}
theorem RpAll.length : ∀ {vs : List V} {ds : List P}, RpAll K H Fb vs ds → vs.length = ds.length
  | _, _, .nil => rfl
  | _, _, .cons _ t => by rw [List.length_cons, List.length_cons, t.length]
theorem RpAll.append : ∀ {vs : List V} {ds : List P} {us : List V} {es : List P}, RpAll K H Fb vs ds → RpAll K H Fb us es → RpAll K H Fb (vs ++ us) (ds ++ es)
  | _, _, _, _, .nil, r => r
  | _, _, _, _, .cons h t, r => .cons h (RpAll.append t r)
theorem RpAll.get : ∀ {vs : List V} {ds : List P} {i : Nat} {d : P}, RpAll K H Fb vs ds → ds[i]? = some d → ∃ v, vs[i]? = some v ∧ Rp K H Fb v d
  | _, _, _, _, .nil, e => by simp at e
  | _, _, 0, _, .cons h _, e => by simp at e; subst e; exact ⟨_, rfl, h⟩
  | _, _, i + 1, d, .cons _ t, e => by
    obtain ⟨v, h1, h2⟩ := RpAll.get (i := i) (d := d) t (by simpa using e)
    exact ⟨v, by simpa using h1, h2⟩
theorem RpAll.getV : ∀ {vs : List V} {ds : List P} {i : Nat} {v : V}, RpAll K H Fb vs ds → vs[i]? = some v → ∃ d, ds[i]? = some d ∧ Rp K H Fb v d
  | _, _, _, _, .nil, e => by simp at e
  | _, _, 0, _, .cons h _, e => by simp at e; subst e; exact ⟨_, rfl, h⟩
  | _, _, i + 1, v, .cons _ t, e => by
    obtain ⟨d, h1, h2⟩ := RpAll.getV (i := i) (v := v) t (by simpa using e)
    exact ⟨d, by simpa using h1, h2⟩
theorem RpAll.take : ∀ {vs : List V} {ds : List P} (n : Nat), RpAll K H Fb vs ds → RpAll K H Fb (vs.take n) (ds.take n)
  | _, _, 0, _ => by simp; exact .nil
  | _, _, _ + 1, .nil => .nil
  | _, _, n + 1, .cons h t => .cons h (RpAll.take n t)
theorem RpAll.drop : ∀ {vs : List V} {ds : List P} (n : Nat), RpAll K H Fb vs ds → RpAll K H Fb (vs.drop n) (ds.drop n)
  | _, _, 0, r => r
  | _, _, _ + 1, .nil => .nil
  | _, _, n + 1, .cons _ t => RpAll.drop n t
theorem RpAll.set {v : V} {d : P} (r : Rp K H Fb v d) : ∀ {vs : List V} {ds : List P} (n : Nat), RpAll K H Fb vs ds → RpAll K H Fb (vs.set n v) (ds.set n d)
  | _, _, _, .nil => .nil
  | _, _, 0, .cons _ t => .cons r t
  | _, _, n + 1, .cons h t => .cons h (RpAll.set r n t)
theorem RpAll.eraseIdx : ∀ {vs : List V} {ds : List P} (n : Nat), RpAll K H Fb vs ds → RpAll K H Fb (vs.eraseIdx n) (ds.eraseIdx n)
  | _, _, _, .nil => .nil
  | _, _, 0, .cons _ t => t
  | _, _, n + 1, .cons h t => .cons h (RpAll.eraseIdx n t)
end

/-! ### the memory -/
def Lv (L : List Addr) (M : Mem) (a : Addr) : Prop := ∃ (n : Nat) (o : MObj), L[n]? = some a ∧ M[n]? = some o ∧ o.alive = true
def Fbd (L : List Addr) (M : Mem) (G : Addr → Prop) (a : Addr) : Prop := Lv L M a ∨ G a
/-- what stands at a live object's address -/
inductive MC (K : PySem.W.Frag) (H : Hp) (Fb : Addr → Prop) : HO → MObj → Prop
  | lst {xs : List V} {ds : List P} (r : RpAll K H Fb xs ds) : MC K H Fb (.lst xs) (.lst ds)
  | dct {kvs : List (Key × V)} {ds : List (P × P)} (r : RpKV K H Fb kvs ds) : MC K H Fb (.dK kvs) (.dct ds)
theorem MC.ext {K : PySem.W.Frag} {H H' : Hp} {Fb Fb' : Addr → Prop} (k : Keeps H Fb H' Fb') {ho : HO} {o : MObj} (h : MC K H Fb ho o) : MC K H' Fb' ho o := by
  cases h with
  | lst r => exact .lst (RpAll.ext k _ _ r)
  | dct r => exact .dct (RpKV.ext k _ _ r)
theorem MC.alive {K : PySem.W.Frag} {H : Hp} {Fb : Addr → Prop} {ho : HO} {o : MObj} (h : MC K H Fb ho o) : o.alive = true := by cases h <;> rfl
structure MR (K : PySem.W.Frag) (H : Hp) (G : Addr → Prop) (L : List Addr) (M : Mem) : Prop where
  len : L.length = M.length
  nd : L.Nodup
  tr : ∀ a, a ∈ L → H a ≠ none
  ng : ∀ a, a ∈ L → ¬ G a
  tg : ∀ a, G a → H a ≠ none
  at_ : ∀ (n : Nat) (a : Addr) (o : MObj), L[n]? = some a → M[n]? = some o → o.alive = true → ∃ ho, H a = some ho ∧ MC K H (Fbd L M G) ho o
/-- how a state follows another -/
structure Nxt (H : Hp) (L : List Addr) (M : Mem) (H' : Hp) (L' : List Addr) (M' : Mem) : Prop where
  pre : ∃ R, L' = L ++ R
  keep : ∀ a o, H a = some o → ¬ Lv L M a → H' a = some o
  new : ∀ a, Lv L' M' a → Lv L M a ∨ H a = none
section
variable {K : PySem.W.Frag} {H H' H2 : Hp} {G : Addr → Prop} {L L' L2 : List Addr} {M M' M2 : Mem}
theorem Nxt.refl : Nxt H L M H L M := ⟨⟨[], by simp⟩, fun _ _ h _ => h, fun _ h => .inl h⟩
theorem Nxt.trans (a : Nxt H L M H' L' M') (b : Nxt H' L' M' H2 L2 M2) : Nxt H L M H2 L2 M2 := by
  refine ⟨?_, fun c o h n => b.keep c o (a.keep c o h n) fun z => ?_, fun c h => ?_⟩
  · obtain ⟨R, e⟩ := a.pre
    obtain ⟨R2, e2⟩ := b.pre
    exact ⟨R ++ R2, by rw [e2, e, List.append_assoc]⟩
  · rcases a.new c z with q | q
    · exact n q
    · rw [h] at q; cases q
  · rcases b.new c h with q | q
    · exact a.new c q
    · cases e : H c with
      | none => exact .inr rfl
      | some o =>
        by_cases n : Lv L M c
        · exact .inl n
        · rw [a.keep c o e n] at q; cases q
theorem Nxt.keeps (x : Nxt H L M H' L' M') : Keeps H (Fbd L M G) H' (Fbd L' M' G) := ⟨fun a o h n => by
  have n1 : ¬ Lv L M a := fun z => n (.inl z)
  refine ⟨x.keep a o h n1, fun z => ?_⟩
  rcases z with z | z
  · rcases x.new a z with q | q
    · exact n1 q
    · rw [h] at q; cases q
  · exact n (.inr z)⟩
theorem Nxt.get (x : Nxt H L M H' L' M') {n : Nat} {a : Addr} (h : L[n]? = some a) : L'[n]? = some a := by
  obtain ⟨R, e⟩ := x.pre
  rw [e, List.getElem?_append_left (List.getElem?_eq_some_iff.mp h).1]
  exact h
theorem MR.live (m : MR K H G L M) {a : Addr} (h : Lv L M a) : ∃ ho o, H a = some ho ∧ MC K H (Fbd L M G) ho o := by
  obtain ⟨n, o, h1, h2, h3⟩ := h
  obtain ⟨ho, e, c⟩ := m.at_ n a o h1 h2 h3
  exact ⟨ho, o, e, c⟩
theorem Lv.mem {a : Addr} (h : Lv L M a) : a ∈ L := by
  obtain ⟨n, o, h1, _⟩ := h
  exact List.mem_of_getElem? h1
theorem nodup_get {L : List Addr} (h : L.Nodup) {i j : Nat} {a : Addr} (x : L[i]? = some a) (y : L[j]? = some a) : i = j := by
  obtain ⟨h1, e1⟩ := List.getElem?_eq_some_iff.mp x
  obtain ⟨h2, e2⟩ := List.getElem?_eq_some_iff.mp y
  exact (List.getElem_inj h).mp (e1.trans e2.symm)
/-- an address not tracked so far is tracked -/
theorem Nxt.fresh {p : Addr} {ho : HO} (hp : H p = none) : Nxt H L M (upd H p ho) L M :=
  ⟨⟨[], by simp⟩, fun a o h _ => by rw [upd_ne (ne_of_none h hp)]; exact h, fun _ h => .inl h⟩
theorem MR.fresh {p : Addr} {ho : HO} (m : MR K H G L M) (hp : H p = none) : MR K (upd H p ho) G L M := by
  refine ⟨m.len, m.nd, fun a h => ?_, m.ng, fun a h => ?_, fun n a o h1 h2 h3 => ?_⟩
  · have := m.tr a h
    rw [upd_ne (fun e => this (by rw [e]; exact hp))]; exact this
  · have := m.tg a h
    rw [upd_ne (fun e => this (by rw [e]; exact hp))]; exact this
  · obtain ⟨ho', e, c⟩ := m.at_ n a o h1 h2 h3
    exact ⟨ho', by rw [upd_ne (ne_of_none e hp)]; exact e, c.ext (Nxt.fresh hp).keeps⟩
/-- a new object that may change -/
theorem lv_alloc {p a : Addr} {o : MObj} (hl : L.length = M.length) (h : Lv (L ++ [p]) (M ++ [o]) a) : Lv L M a ∨ a = p := by
  obtain ⟨n, o', h1, h2, h3⟩ := h
  by_cases hn : n < L.length
  · rw [List.getElem?_append_left hn] at h1
    rw [List.getElem?_append_left (by omega)] at h2
    exact .inl ⟨n, o', h1, h2, h3⟩
  · have hlt := (List.getElem?_eq_some_iff.mp h1).1
    rw [List.length_append, List.length_singleton] at hlt
    have : n = L.length := by omega
    subst this
    simp at h1
    exact .inr h1.symm
theorem lv_app {p a : Addr} {o : MObj} (h : Lv L M a) : Lv (L ++ [p]) (M ++ [o]) a := by
  obtain ⟨n, o', h1, h2, h3⟩ := h
  exact ⟨n, o', by rw [List.getElem?_append_left (List.getElem?_eq_some_iff.mp h1).1]; exact h1, by rw [List.getElem?_append_left (List.getElem?_eq_some_iff.mp h2).1]; exact h2, h3⟩
theorem Nxt.alloc {p : Addr} {ho : HO} {o : MObj} (hl : L.length = M.length) (hp : H p = none) : Nxt H L M (upd H p ho) (L ++ [p]) (M ++ [o]) :=
  ⟨⟨[p], rfl⟩, fun a u h _ => by rw [upd_ne (ne_of_none h hp)]; exact h, fun a h => (lv_alloc hl h).elim .inl fun e => .inr (by rw [e]; exact hp)⟩
theorem MR.alloc {p : Addr} {ho : HO} {o : MObj} (m : MR K H G L M) (hp : H p = none) (c : MC K H (Fbd L M G) ho o) : MR K (upd H p ho) G (L ++ [p]) (M ++ [o]) := by
  have pn : p ∉ L := fun h => m.tr p h hp
  have kp : Keeps H (Fbd L M G) (upd H p ho) (Fbd (L ++ [p]) (M ++ [o]) G) := (Nxt.alloc (o := o) m.len hp).keeps
  refine ⟨by simp [m.len], ?_, fun a h => ?_, fun a h => ?_, fun a h => ?_, fun n a o' h1 h2 h3 => ?_⟩
  · rw [List.nodup_append]
    exact ⟨m.nd, by simp, fun a ha b hb e => by simp at hb; subst hb; subst e; exact pn ha⟩
  · rcases List.mem_append.mp h with h | h
    · have := m.tr a h
      rw [upd_ne (fun e => this (by rw [e]; exact hp))]; exact this
    · simp at h; subst h; rw [upd_same]; exact fun z => nomatch z
  · rcases List.mem_append.mp h with h | h
    · exact m.ng a h
    · simp at h; subst h; exact fun g => m.tg _ g hp
  · have := m.tg a h
    rw [upd_ne (fun e => this (by rw [e]; exact hp))]; exact this
  · by_cases hn : n < L.length
    · rw [List.getElem?_append_left hn] at h1
      rw [List.getElem?_append_left (by rw [← m.len]; exact hn)] at h2
      obtain ⟨ho', e, c'⟩ := m.at_ n a o' h1 h2 h3
      exact ⟨ho', by rw [upd_ne (ne_of_none e hp)]; exact e, c'.ext kp⟩
    · have hlt := (List.getElem?_eq_some_iff.mp h1).1
      rw [List.length_append, List.length_singleton] at hlt
      have : n = L.length := by omega
      subst this
      simp at h1
      rw [m.len] at h2
      simp at h2
      subst h1; subst h2
      exact ⟨ho, upd_same, c.ext kp⟩
/-- a live object changes -/
theorem lv_set {n : Nat} {a b : Addr} {o : MObj} (h1 : L[n]? = some a) (hlv : Lv L M a) (h : Lv L (M.set n o) b) : Lv L M b := by
  obtain ⟨i, o', e1, e2, e3⟩ := h
  by_cases hi : n = i
  · subst hi
    rw [h1] at e1; cases e1
    exact hlv
  · rw [List.getElem?_set_ne hi] at e2
    exact ⟨i, o', e1, e2, e3⟩
theorem lv_set' {n : Nat} {b : Addr} {o : MObj} (ha : o.alive = true) (h : Lv L M b) : Lv L (M.set n o) b := by
  obtain ⟨i, o', e1, e2, e3⟩ := h
  by_cases hi : n = i
  · subst hi
    refine ⟨n, o, e1, ?_, ha⟩
    rw [List.getElem?_set_self (List.getElem?_eq_some_iff.mp e2).1]
  · exact ⟨i, o', e1, by rw [List.getElem?_set_ne hi]; exact e2, e3⟩
theorem Nxt.write {n : Nat} {a : Addr} {o : MObj} {ho : HO} (h1 : L[n]? = some a) (hlv : Lv L M a) : Nxt H L M (upd H a ho) L (M.set n o) :=
  ⟨⟨[], by simp⟩, fun b u h hn => by rw [upd_ne (fun e => hn (by rw [e]; exact hlv))]; exact h, fun b h => .inl (lv_set h1 hlv h)⟩
theorem MR.write {n : Nat} {a : Addr} {o : MObj} {ho : HO} (m : MR K H G L M) (h1 : L[n]? = some a) (hlv : Lv L M a) (c : MC K H (Fbd L M G) ho o) : MR K (upd H a ho) G L (M.set n o) := by
  have kp : Keeps H (Fbd L M G) (upd H a ho) (Fbd L (M.set n o) G) := (Nxt.write (o := o) h1 hlv).keeps
  have hn : n < M.length := by rw [← m.len]; exact (List.getElem?_eq_some_iff.mp h1).1
  refine ⟨by simp [m.len], m.nd, fun b h => ?_, m.ng, fun b h => ?_, fun i b o' e1 e2 e3 => ?_⟩
  · by_cases e : b = a
    · subst e; rw [upd_same]; exact fun z => nomatch z
    · rw [upd_ne e]; exact m.tr b h
  · by_cases e : b = a
    · subst e; rw [upd_same]; exact fun z => nomatch z
    · rw [upd_ne e]; exact m.tg b h
  · by_cases hi : n = i
    · subst hi
      rw [h1] at e1; cases e1
      rw [List.getElem?_set_self hn] at e2; cases e2
      exact ⟨ho, upd_same, c.ext kp⟩
    · rw [List.getElem?_set_ne hi] at e2
      obtain ⟨ho', q, c'⟩ := m.at_ i b o' e1 e2 e3
      refine ⟨ho', ?_, c'.ext kp⟩
      rw [upd_ne (fun e => hi (nodup_get m.nd h1 (by rw [← e]; exact e1)))]
      exact q
/-- a live object changes no more -/
theorem Nxt.freeze {n : Nat} : Nxt H L M H L (M.set n .dead) :=
  ⟨⟨[], by simp⟩, fun _ _ h _ => h, fun b h => .inl (by
    obtain ⟨i, o', e1, e2, e3⟩ := h
    by_cases hi : n = i
    · subst hi
      by_cases hn : n < M.length
      · rw [List.getElem?_set_self hn] at e2; cases e2; cases e3
      · rw [List.getElem?_eq_none (by simpa using hn)] at e2; cases e2
    · rw [List.getElem?_set_ne hi] at e2
      exact ⟨i, o', e1, e2, e3⟩)⟩
theorem MR.freeze {n : Nat} (m : MR K H G L M) : MR K H G L (M.set n .dead) := by
  refine ⟨by simp [m.len], m.nd, m.tr, m.ng, m.tg, fun i b o' e1 e2 e3 => ?_⟩
  by_cases hi : n = i
  · subst hi
    by_cases hn : n < M.length
    · rw [List.getElem?_set_self hn] at e2; cases e2; cases e3
    · rw [List.getElem?_eq_none (by simpa using hn)] at e2; cases e2
  · rw [List.getElem?_set_ne hi] at e2
    obtain ⟨ho', q, c'⟩ := m.at_ i b o' e1 e2 e3
    exact ⟨ho', q, c'.ext Nxt.freeze.keeps⟩
theorem not_lv_freeze {n : Nat} {a : Addr} (m : MR K H G L M) (h1 : L[n]? = some a) : ¬ Fbd L (M.set n .dead) G a := by
  rintro (⟨i, o', e1, e2, e3⟩ | g)
  · have : n = i := nodup_get m.nd h1 e1
    subst this
    by_cases hn : n < M.length
    · rw [List.getElem?_set_self hn] at e2; cases e2; cases e3
    · rw [List.getElem?_eq_none (by simpa using hn)] at e2; cases e2
  · exact m.ng a (List.mem_of_getElem? h1) g
theorem MR.frozen {n : Nat} {a : Addr} {o : MObj} (m : MR K H G L M) (h1 : L[n]? = some a) (h2 : M[n]? = some o) (h3 : o.alive = true) : Rp K H (Fbd L (M.set n .dead) G) (.ref a) o.toP := by
  obtain ⟨ho, e, c⟩ := m.at_ n a o h1 h2 h3
  have c' := c.ext (Nxt.freeze (n := n) (H := H) (L := L) (M := M)).keeps
  cases c' with
  | lst r => exact .lst e (not_lv_freeze m h1) r
  | dct r => exact .dct (.inl e) (not_lv_freeze m h1) r
/-- the objects made last are let go -/
theorem lv_take {k : Nat} {a : Addr} (h : Lv (L.take k) (M.take k) a) : Lv L M a := by
  obtain ⟨i, o, e1, e2, e3⟩ := h
  have hi : i < k := by
    have := (List.getElem?_eq_some_iff.mp e1).1
    rw [List.length_take] at this
    omega
  rw [List.getElem?_take_of_lt hi] at e1 e2
  exact ⟨i, o, e1, e2, e3⟩
theorem keeps_take {k : Nat} : Keeps H (Fbd L M G) H (Fbd (L.take k) (M.take k) G) := ⟨fun a o h n => ⟨h, fun z => n (z.elim (fun q => .inl (lv_take q)) .inr)⟩⟩
theorem MR.take {k : Nat} (m : MR K H G L M) : MR K H G (L.take k) (M.take k) := by
  refine ⟨by simp [m.len], m.nd.sublist (List.take_sublist _ _), fun a h => m.tr a (List.mem_of_mem_take h), fun a h => m.ng a (List.mem_of_mem_take h), m.tg, fun i b o' e1 e2 e3 => ?_⟩
  have hi : i < k := by
    have := (List.getElem?_eq_some_iff.mp e1).1
    rw [List.length_take] at this
    omega
  rw [List.getElem?_take_of_lt hi] at e1 e2
  obtain ⟨ho, q, c⟩ := m.at_ i b o' e1 e2 e3
  exact ⟨ho, q, c.ext keeps_take⟩
theorem Nxt.take (x : Nxt H L M H' L' M') (hl : L.length = M.length) : Nxt H L M H' L (M'.take M.length) := by
  obtain ⟨R, e⟩ := x.pre
  refine ⟨⟨[], by simp⟩, x.keep, fun a h => x.new a ?_⟩
  obtain ⟨i, o, e1, e2, e3⟩ := h
  have hi : i < M.length := by rw [← hl]; exact (List.getElem?_eq_some_iff.mp e1).1
  rw [List.getElem?_take_of_lt hi] at e2
  exact ⟨i, o, by rw [e, List.getElem?_append_left (by rw [hl]; exact hi)]; exact e1, e2, e3⟩
theorem MR.takeTo (x : Nxt H L M H' L' M') (hl : L.length = M.length) (m : MR K H' G L' M') : MR K H' G L (M'.take M.length) := by
  obtain ⟨R, e⟩ := x.pre
  have := m.take (k := M.length)
  rw [e, List.take_append_of_le_length (by omega), ← hl, List.take_length] at this
  rw [← hl]; exact this
/-- something is hidden: it is being made -/
theorem MR.hide {p : Addr} {ho : HO} (m : MR K H G L M) (hp : H p = none) : MR K (upd H p ho) (fun a => G a ∨ a = p) L M := by
  have pn : p ∉ L := fun h => m.tr p h hp
  have kp : Keeps H (Fbd L M G) (upd H p ho) (Fbd L M fun a => G a ∨ a = p) := ⟨fun a o h n => ⟨by rw [upd_ne (ne_of_none h hp)]; exact h, fun z => by
    rcases z with z | z | z
    · exact n (.inl z)
    · exact n (.inr z)
    · subst z; rw [h] at hp; cases hp⟩⟩
  refine ⟨m.len, m.nd, fun a h => ?_, fun a h g => ?_, fun a h => ?_, fun n a o h1 h2 h3 => ?_⟩
  · have := m.tr a h
    rw [upd_ne (fun e => this (by rw [e]; exact hp))]; exact this
  · rcases g with g | g
    · exact m.ng a h g
    · subst g; exact pn h
  · rcases h with h | h
    · have := m.tg a h
      rw [upd_ne (fun e => this (by rw [e]; exact hp))]; exact this
    · subst h; rw [upd_same]; exact fun z => nomatch z
  · obtain ⟨ho', e, c⟩ := m.at_ n a o h1 h2 h3
    exact ⟨ho', by rw [upd_ne (ne_of_none e hp)]; exact e, c.ext kp⟩
theorem keeps_hide {p : Addr} {ho : HO} (hp : H p = none) : Keeps H (Fbd L M G) (upd H p ho) (Fbd L M fun a => G a ∨ a = p) := ⟨fun a o h n => ⟨by rw [upd_ne (ne_of_none h hp)]; exact h, fun z => by
    rcases z with z | z | z
    · exact n (.inl z)
    · exact n (.inr z)
    · subst z; rw [h] at hp; cases hp⟩⟩
end
end Cb

set_option Elab.async false
set_option linter.all false
set_option maxRecDepth 100000
/-! Cb, part B: what is wanted behind a step (Post), the readings of expressions, tests, arguments, statements; how they are put together. -/
namespace Cb
open PySem PySem.Spec PyProof.Rows L2

/-- where the program's defs and classes stand -/
structure Tb where
  F : Nat → Addr
  C : Nat → Addr
/-- a list that stays: one of the heap, or one of the program's own -/
def FL (K : PySem.W.Frag) (H : Hp) (Fb : Addr → Prop) (a : Addr) (xs : List V) : Prop :=
  (Rd H a (.lst xs) ∧ ¬ Fb a) ∨ ∃ (ob : Obj) (its : Array Value) (c : Nat), K.lookup a = some ob ∧ ob.cls = .type "list" ∧ ob.dict = none ∧ ob.data = .seq its c ∧ its.size ≤ sizeLine ∧ Vals xs its.toList
theorem FL.ext {K : PySem.W.Frag} {H H' : Hp} {Fb Fb' : Addr → Prop} {a : Addr} {xs : List V} (k : Keeps H Fb H' Fb') (h : FL K H Fb a xs) : FL K H' Fb' a xs := h.elim (fun z => .inl (k.rd z.1 z.2)) .inr
theorem FL.sq {K : PySem.W.Frag} {H : Hp} {Fb : Addr → Prop} {a : Addr} {xs : List V} (h : FL K H Fb a xs) : SqL K H a xs := h.elim (fun z => .inl z.1) .inr
section
variable (K : PySem.W.Frag) (T : Tb)
inductive RD (H : Hp) (G : Addr → Prop) (L : List Addr) (M : Mem) : V → D → Prop
  | p {v : V} {d : P} (h : Rp K H (Fbd L M G) v d) : RD H G L M v (.p d)
  | obj {n : Nat} {a : Addr} (h : L[n]? = some a) : RD H G L M (.ref a) (.obj n)
  | fn (id : Nat) : RD H G L M (.ref (T.F id)) (.fn id)
  | ty (n : String) : RD H G L M (.ty n) (.ty n)
  | frz {a : Addr} {vs : List V} {xs : List P} (h : FL K H (Fbd L M G) a vs) (r : RpAll K H (Fbd L M G) vs xs) : RD H G L M (.ref a) (.frz xs)
abbrev RDs (H : Hp) (G : Addr → Prop) (L : List Addr) (M : Mem) : List V → List D → Prop := Paired (RD K T H G L M)
/-- an exception's fields -/
def XF (H : Hp) (Fb : Addr → Prop) : List (Str × V) → List (Str × P) → Prop := Paired fun a b => a.1 = b.1 ∧ Rp K H Fb a.2 b.2
def XR (H : Hp) (Fb : Addr → Prop) (x : Xc) (cls : Value) (d : Option Addr) : Prop :=
  cls = .ref (T.C x.cls) ∧ match x.fs with
    | none => d = none
    | some fs => ∃ b us, d = some b ∧ H b = some (.xd us) ∧ ¬ Fb b ∧ XF K H Fb us fs
/-- what is wanted behind a step that gives a value -/
def Post (H : Hp) (G : Addr → Prop) (L : List Addr) (M : Mem) (r : Res Ev) (Q : VK) (E : XK) : Prop :=
  match r with
  | .ok (.d x) M' => ∀ v H' L', Nxt H L M H' L' M' → MR K H' G L' M' → RD K T H' G L' M' v x → Q v H'
  | .ok (.new o) M' => ∀ p ho H' L', H' p = none → Nxt H L M H' L' M' → MR K H' G L' M' → MC K H' (Fbd L' M' G) ho o → Q (.ref p) (upd H' p ho)
  | .err x M' => ∀ cls d H' L', Nxt H L M H' L' M' → MR K H' G L' M' → XR K T H' (Fbd L' M' G) x cls d → E cls d H'
  | .bad => False
/-- .. a truth value, several values -/
def PostT (H : Hp) (G : Addr → Prop) (L : List Addr) (M : Mem) (r : Res Bool) (Q : Bool → Hp → Prop) (E : XK) : Prop :=
  match r with
  | .ok b M' => ∀ H' L', Nxt H L M H' L' M' → MR K H' G L' M' → Q b H'
  | .err x M' => ∀ cls d H' L', Nxt H L M H' L' M' → MR K H' G L' M' → XR K T H' (Fbd L' M' G) x cls d → E cls d H'
  | .bad => False
def PostA (H : Hp) (G : Addr → Prop) (L : List Addr) (M : Mem) (r : Res (List D)) (Q : List V → Hp → Prop) (E : XK) : Prop :=
  match r with
  | .ok ds M' => ∀ vs H' L', Nxt H L M H' L' M' → MR K H' G L' M' → RDs K T H' G L' M' vs ds → Q vs H'
  | .err x M' => ∀ cls d H' L', Nxt H L M H' L' M' → MR K H' G L' M' → XR K T H' (Fbd L' M' G) x cls d → E cls d H'
  | .bad => False
abbrev Env := List (Option D)
structure SR (σ : L2.St) (H : Hp) (ρ : Env) (G : Addr → Prop) (L : List Addr) (M : Mem) : Prop where
  mr : MR K H G L M
  len : ρ.length = σ.length
  env : ∀ (i : Nat) (x : D), ρ[i]? = some (some x) → ∃ v, σ[i]? = some (some v) ∧ RD K T H G L M v x
end
abbrev PFn := Env → Mem → Res Ev
abbrev TFn := Env → Mem → Res Bool
abbrev AFn := Env → Mem → Res (List D)
/-- how a block ends -/
inductive Out where
  | nx (ρ : Env)
  | rt (x : Ev)
  | bk (ρ : Env)
  | ct (ρ : Env)
abbrev SFn := Env → Mem → Res Out
/-- a def's meaning -/
abbrev FS := List D → Mem → Res Ev

section
variable {K : PySem.W.Frag} {T : Tb} {H H' H1 : Hp} {G : Addr → Prop} {L L' L1 : List Addr} {M M' M1 : Mem} {σ : L2.St} {ρ : Env}
theorem RD.ext (x : Nxt H L M H' L' M') {v : V} {d : D} (h : RD K T H G L M v d) : RD K T H' G L' M' v d := by
  cases h with
  | p h => exact .p (Rp.ext x.keeps _ _ h)
  | obj h => exact .obj (x.get h)
  | fn id => exact .fn id
  | ty n => exact .ty n
  | frz h r => exact .frz (h.ext x.keeps) (RpAll.ext x.keeps _ _ r)
theorem RDs.ext (x : Nxt H L M H' L' M') {vs : List V} {ds : List D} (h : RDs K T H G L M vs ds) : RDs K T H' G L' M' vs ds := Paired.mapP h fun _ _ r => RD.ext x r
theorem SR.ext (s : SR K T σ H ρ G L M) (x : Nxt H L M H' L' M') (m : MR K H' G L' M') : SR K T σ H' ρ G L' M' :=
  ⟨m, s.len, fun i d h => let ⟨v, h1, h2⟩ := s.env i d h; ⟨v, h1, h2.ext x⟩⟩
theorem MR.free {p : Addr} (m : MR K H G L M) (hp : H p = none) : ¬ Fbd L M G p := fun z => z.elim (fun q => m.tr p q.mem hp) fun g => m.tg p g hp
theorem MC.rp {p : Addr} {ho : HO} {o : MObj} (m : MR K H G L M) (hp : H p = none) (c : MC K H (Fbd L M G) ho o) : Rp K (upd H p ho) (Fbd L M G) (.ref p) o.toP := by
  have c' := c.ext (Nxt.fresh (ho := ho) hp).keeps
  cases c' with
  | lst r => exact .lst upd_same (m.free hp) r
  | dct r => exact .dct (.inl upd_same) (m.free hp) r
theorem Post.start {r : Res Ev} {Q : VK} {E : XK} (x : Nxt H L M H1 L1 M1) (h : Post K T H G L M r Q E) : Post K T H1 G L1 M1 r Q E := by
  cases r with
  | ok e M' =>
    cases e with
    | d y => exact fun v H' L' n m q => h v H' L' (x.trans n) m q
    | new o => exact fun p ho H' L' hp n m q => h p ho H' L' hp (x.trans n) m q
  | err y M' => exact fun cls d H' L' n m q => h cls d H' L' (x.trans n) m q
  | bad => exact h
theorem PostT.start {r : Res Bool} {Q : Bool → Hp → Prop} {E : XK} (x : Nxt H L M H1 L1 M1) (h : PostT K T H G L M r Q E) : PostT K T H1 G L1 M1 r Q E := by
  cases r with
  | ok e M' => exact fun H' L' n m => h H' L' (x.trans n) m
  | err y M' => exact fun cls d H' L' n m q => h cls d H' L' (x.trans n) m q
  | bad => exact h
theorem PostA.start {r : Res (List D)} {Q : List V → Hp → Prop} {E : XK} (x : Nxt H L M H1 L1 M1) (h : PostA K T H G L M r Q E) : PostA K T H1 G L1 M1 r Q E := by
  cases r with
  | ok e M' => exact fun v H' L' n m q => h v H' L' (x.trans n) m q
  | err y M' => exact fun cls d H' L' n m q => h cls d H' L' (x.trans n) m q
  | bad => exact h
theorem Post.mono {r : Res Ev} {Q Q' : VK} {E : XK} (h : Post K T H G L M r Q E) (hq : ∀ v H', Q v H' → Q' v H') : Post K T H G L M r Q' E := by
  cases r with
  | ok e M' =>
    cases e with
    | d y => exact fun v H' L' n m q => hq _ _ (h v H' L' n m q)
    | new o => exact fun p ho H' L' hp n m q => hq _ _ (h p ho H' L' hp n m q)
  | err y M' => exact h
  | bad => exact h
/-- a new thing is taken as plain data -/
theorem Post.bind {r : Res Ev} {k : D → Mem → Res Ev} {Q : VK} {E : XK} (h : Post K T H G L M ((stl r).bind k) Q E) :
    Post K T H G L M r (fun v H1 => ∃ x L1 M1, Nxt H L M H1 L1 M1 ∧ MR K H1 G L1 M1 ∧ RD K T H1 G L1 M1 v x ∧ Post K T H1 G L1 M1 (k x M1) Q E) E := by
  cases r with
  | ok e M' =>
    cases e with
    | d y => exact fun v H' L' n m q => ⟨y, L', M', n, m, q, h.start n⟩
    | new o =>
      intro p ho H' L' hp n m c
      have n2 : Nxt H L M (upd H' p ho) L' M' := n.trans (Nxt.fresh hp)
      exact ⟨.p o.toP, L', M', n2, m.fresh hp, .p (c.rp m hp), h.start n2⟩
  | err y M' => exact h
  | bad => exact h
theorem Post.bindT {r : Res Ev} {k : D → Mem → Res Bool} {Q : Bool → Hp → Prop} {E : XK} (h : PostT K T H G L M ((stl r).bind k) Q E) :
    Post K T H G L M r (fun v H1 => ∃ x L1 M1, Nxt H L M H1 L1 M1 ∧ MR K H1 G L1 M1 ∧ RD K T H1 G L1 M1 v x ∧ PostT K T H1 G L1 M1 (k x M1) Q E) E := by
  cases r with
  | ok e M' =>
    cases e with
    | d y => exact fun v H' L' n m q => ⟨y, L', M', n, m, q, h.start n⟩
    | new o =>
      intro p ho H' L' hp n m c
      have n2 : Nxt H L M (upd H' p ho) L' M' := n.trans (Nxt.fresh hp)
      exact ⟨.p o.toP, L', M', n2, m.fresh hp, .p (c.rp m hp), h.start n2⟩
  | err y M' => exact h
  | bad => exact h
theorem Post.bindA {r : Res Ev} {k : D → Mem → Res (List D)} {Q : List V → Hp → Prop} {E : XK} (h : PostA K T H G L M ((stl r).bind k) Q E) :
    Post K T H G L M r (fun v H1 => ∃ x L1 M1, Nxt H L M H1 L1 M1 ∧ MR K H1 G L1 M1 ∧ RD K T H1 G L1 M1 v x ∧ PostA K T H1 G L1 M1 (k x M1) Q E) E := by
  cases r with
  | ok e M' =>
    cases e with
    | d y => exact fun v H' L' n m q => ⟨y, L', M', n, m, q, h.start n⟩
    | new o =>
      intro p ho H' L' hp n m c
      have n2 : Nxt H L M (upd H' p ho) L' M' := n.trans (Nxt.fresh hp)
      exact ⟨.p o.toP, L', M', n2, m.fresh hp, .p (c.rp m hp), h.start n2⟩
  | err y M' => exact h
  | bad => exact h
theorem PostT.bind {r : Res Bool} {k : Bool → Mem → Res Ev} {Q : VK} {E : XK} (h : Post K T H G L M (r.bind k) Q E) :
    PostT K T H G L M r (fun b H1 => ∃ L1 M1, Nxt H L M H1 L1 M1 ∧ MR K H1 G L1 M1 ∧ Post K T H1 G L1 M1 (k b M1) Q E) E := by
  cases r with
  | ok e M' => exact fun H' L' n m => ⟨L', M', n, m, h.start n⟩
  | err y M' => exact h
  | bad => exact h
theorem PostT.bindT {r : Res Bool} {k : Bool → Mem → Res Bool} {Q : Bool → Hp → Prop} {E : XK} (h : PostT K T H G L M (r.bind k) Q E) :
    PostT K T H G L M r (fun b H1 => ∃ L1 M1, Nxt H L M H1 L1 M1 ∧ MR K H1 G L1 M1 ∧ PostT K T H1 G L1 M1 (k b M1) Q E) E := by
  cases r with
  | ok e M' => exact fun H' L' n m => ⟨L', M', n, m, h.start n⟩
  | err y M' => exact h
  | bad => exact h
theorem PostA.bind {r : Res (List D)} {k : List D → Mem → Res Ev} {Q : VK} {E : XK} (h : Post K T H G L M (r.bind k) Q E) :
    PostA K T H G L M r (fun vs H1 => ∃ ds L1 M1, Nxt H L M H1 L1 M1 ∧ MR K H1 G L1 M1 ∧ RDs K T H1 G L1 M1 vs ds ∧ Post K T H1 G L1 M1 (k ds M1) Q E) E := by
  cases r with
  | ok e M' => exact fun vs H' L' n m q => ⟨e, L', M', n, m, q, h.start n⟩
  | err y M' => exact h
  | bad => exact h
theorem PostA.bindA {r : Res (List D)} {k : List D → Mem → Res (List D)} {Q : List V → Hp → Prop} {E : XK} (h : PostA K T H G L M (r.bind k) Q E) :
    PostA K T H G L M r (fun vs H1 => ∃ ds L1 M1, Nxt H L M H1 L1 M1 ∧ MR K H1 G L1 M1 ∧ RDs K T H1 G L1 M1 vs ds ∧ PostA K T H1 G L1 M1 (k ds M1) Q E) E := by
  cases r with
  | ok e M' => exact fun vs H' L' n m q => ⟨e, L', M', n, m, q, h.start n⟩
  | err y M' => exact h
  | bad => exact h
theorem PostT.mono {r : Res Bool} {Q Q' : Bool → Hp → Prop} {E : XK} (h : PostT K T H G L M r Q E) (hq : ∀ v H', Q v H' → Q' v H') : PostT K T H G L M r Q' E := by
  cases r with
  | ok e M' => exact fun H' L' n m => hq _ _ (h H' L' n m)
  | err y M' => exact h
  | bad => exact h
theorem PostA.mono {r : Res (List D)} {Q Q' : List V → Hp → Prop} {E : XK} (h : PostA K T H G L M r Q E) (hq : ∀ v H', Q v H' → Q' v H') : PostA K T H G L M r Q' E := by
  cases r with
  | ok e M' => exact fun v H' L' n m q => hq _ _ (h v H' L' n m q)
  | err y M' => exact h
  | bad => exact h
end

/-! ### the readings -/
section
variable (X : Cx) (T : Tb) (W : WX)
def tE (φ : PFn) : TE := fun σ H Q => ∃ ρ G L M, SR X.K T σ H ρ G L M ∧ Post X.K T H G L M (φ ρ M) Q fun cls d H' => W cls d σ H'
def tT (φ : TFn) : TT := fun σ H Q => ∃ ρ G L M, SR X.K T σ H ρ G L M ∧ PostT X.K T H G L M (φ ρ M) Q fun cls d H' => W cls d σ H'
def tA (φ : AFn) : TA := fun σ H Q => ∃ ρ G L M, SR X.K T σ H ρ G L M ∧ PostA X.K T H G L M (φ ρ M) Q fun cls d H' => W cls d σ H'
def PD (φ : PFn) (e : Expr) : Prop := PE X e (tE X T W φ)
def TD (φ : TFn) (e : Expr) : Prop := PT X e (tT X T W φ)
def AD (φ : AFn) (es : List Expr) : Prop := PA X es (tA X T W φ)
end
section
variable {X : Cx}
theorem PE.imp {e : Expr} {t t' : TE} (h : PE X e t) (i : ∀ σ H Q, t' σ H Q → t σ H Q) : PE X e t' := ⟨fun pins s σ H Q I q => h.run pins s σ H Q I (i σ H Q q)⟩
theorem PT.imp {e : Expr} {t t' : TT} (h : PT X e t) (i : ∀ σ H Q, t' σ H Q → t σ H Q) : PT X e t' := ⟨fun pins s σ H Q I q => h.run pins s σ H Q I (i σ H Q q)⟩
theorem PA.imp {e : List Expr} {t t' : TA} (h : PA X e t) (i : ∀ σ H Q, t' σ H Q → t σ H Q) : PA X e t' := ⟨fun pos pins s σ H Q I q => h.run pos pins s σ H Q I (i σ H Q q)⟩
theorem PS.imp {e : Stmt} {t t' : TS} (h : PS X e t) (i : ∀ D σ H, t' D σ H → t D σ H) : PS X e t' := ⟨fun pins s σ H D I q => h.run pins s σ H D I (i D σ H q)⟩
end

/-! ### operations by values -/
section
variable (X : Cx) (T : Tb)
def never : XK := fun _ _ _ => False
/-- a two-place operation that leaves the memory -/
def OpG (f : Value → Value → Sem Value) (g : D → D → Mem → Option Ev) : Prop :=
  OpR X f fun x y H Q => ∃ a b r G L M, MR X.K H G L M ∧ RD X.K T H G L M x a ∧ RD X.K T H G L M y b ∧ g a b M = some r ∧ Post X.K T H G L M (.ok r M) Q never
def UnG (f : Value → Sem Value) (g : D → Mem → Option Ev) : Prop :=
  UnR X f fun x H Q => ∃ a r G L M, MR X.K H G L M ∧ RD X.K T H G L M x a ∧ g a M = some r ∧ Post X.K T H G L M (.ok r M) Q never
/-- a call of a built-in -/
def CallG (f : Value) (g : List D → Mem → Option (Ev × Mem)) : Prop :=
  CallR X f fun xs H Q => ∃ ds r M' G L M, MR X.K H G L M ∧ RDs X.K T H G L M xs ds ∧ g ds M = some (r, M') ∧ Post X.K T H G L M (.ok r M') Q never
/-- a built-in method: the receiver, the arguments -/
def MthG (id : String) (g : D → List D → Mem → Option (Ev × Mem)) : Prop :=
  CallR X (.builtin id) fun xs H Q => ∃ v vs d ds r M' G L M, xs = v :: vs ∧ MR X.K H G L M ∧ RD X.K T H G L M v d ∧ RDs X.K T H G L M vs ds ∧ g d ds M = some (r, M') ∧ Post X.K T H G L M (.ok r M') Q never
end
/-- an answer, if there is one -/
def ofO (r : Option Ev) (M : Mem) : Res Ev := match r with
  | some r => .ok r M
  | none => .bad
def ofM (r : Option (Ev × Mem)) : Res Ev := match r with
  | some (r, M) => .ok r M
  | none => .bad
@[simp] theorem ofO_some (r : Ev) (M : Mem) : ofO (some r) M = .ok r M := rfl
@[simp] theorem ofM_some (r : Ev) (M : Mem) : ofM (some (r, M)) = .ok r M := rfl
@[simp] theorem ofO_none (M : Mem) : ofO none M = .bad := rfl
@[simp] theorem ofM_none : ofM none = .bad := rfl
section
variable {K : PySem.W.Frag} {T : Tb} {H : Hp} {G : Addr → Prop} {L : List Addr} {M M' : Mem} {Q : VK} {E : XK}
theorem Post.ok_any {r : Ev} (h : Post K T H G L M (.ok r M') Q E) (E' : XK) : Post K T H G L M (.ok r M') Q E' := by cases r <;> exact h
theorem ofO_post {r : Option Ev} (h : Post K T H G L M (ofO r M') Q E) : ∃ x, r = some x ∧ Post K T H G L M (.ok x M') Q never := by
  cases r with
  | none => exact False.elim h
  | some x => exact ⟨x, rfl, Post.ok_any h never⟩
theorem ofM_post {r : Option (Ev × Mem)} (h : Post K T H G L M (ofM r) Q E) : ∃ x N, r = some (x, N) ∧ Post K T H G L M (.ok x N) Q never := by
  cases r with
  | none => exact False.elim h
  | some x => exact ⟨x.1, x.2, rfl, Post.ok_any h never⟩
end

/-! ### expressions put together -/
def eBin (g : D → D → Mem → Option Ev) (φ ψ : PFn) : PFn := fun ρ M => (stl (φ ρ M)).bind fun x M1 => (stl (ψ ρ M1)).bind fun y M2 => ofO (g x y M2) M2
def eUn (g : D → Mem → Option Ev) (φ : PFn) : PFn := fun ρ M => (stl (φ ρ M)).bind fun x M1 => ofO (g x M1) M1
def eVar (i : Nat) : PFn := fun ρ M => match ρ[i]? with
  | some (some x) => .ok (.d x) M
  | _ => .bad
def eP (d : P) : PFn := fun _ M => .ok (.d (.p d)) M
def eD (d : D) : PFn := fun _ M => .ok (.d d) M
section
variable {X : Cx} {T : Tb} {W : WX} {a b c : Expr} {φ ψ χ : PFn} {pos : Pos}
theorem bin_go {σ : L2.St} {H : Hp} {Q : VK} {g : D → D → Mem → Option Ev} {f : Value → Value → Sem Value} (h : tE X T W (eBin g φ ψ) σ H Q) :
    tOp (fun x y H Q => ∃ a b r G L M, MR X.K H G L M ∧ RD X.K T H G L M x a ∧ RD X.K T H G L M y b ∧ g a b M = some r ∧ Post X.K T H G L M (.ok r M) Q never) (tE X T W φ) (tE X T W ψ) σ H Q := by
  obtain ⟨ρ, G, L, M, s, h⟩ := h
  refine ⟨ρ, G, L, M, s, (Post.bind h).mono fun v H1 ⟨x, L1, M1, n1, m1, r1, h1⟩ => ?_⟩
  refine ⟨ρ, G, L1, M1, s.ext n1 m1, (Post.bind h1).mono fun u H2 ⟨y, L2, M2, n2, m2, r2, h2⟩ => ?_⟩
  obtain ⟨r, e, q⟩ := ofO_post h2
  exact ⟨x, y, r, G, L2, M2, m2, r1.ext n2, r2, e, q⟩
theorem pd_bin {op : Operator} {g : D → D → Mem → Option Ev} (ho : OpG X T (binaryOp op) g) (ha : PD X T W φ a) (hb : PD X T W ψ b) : PD X T W (eBin g φ ψ) (.BinOp a op b pos) :=
  PE.imp (pe_op ho ha hb) fun σ H Q h => bin_go (f := binaryOp op) h
theorem pd_cmp {op : CmpOp} {g : D → D → Mem → Option Ev} (ho : OpG X T (compareOp op) g) (ha : PD X T W φ a) (hb : PD X T W ψ b) (hm : behindInMarks op b = false) : PD X T W (eBin g φ ψ) (.Compare a [op] [b] pos) :=
  PE.imp (pe_cmpR ho ha hb hm) fun σ H Q h => bin_go (f := compareOp op) h
theorem pd_un {op : UnaryOp} {g : D → Mem → Option Ev} (ho : UnG X T (unaryOp op) g) (ha : PD X T W φ a) : PD X T W (eUn g φ) (.UnaryOp op a pos) :=
  PE.imp (pe_un ho ha) fun σ H Q h => by
    obtain ⟨ρ, G, L, M, s, h⟩ := h
    refine ⟨ρ, G, L, M, s, (Post.bind h).mono fun v H1 ⟨x, L1, M1, n1, m1, r1, h1⟩ => ?_⟩
    obtain ⟨r, e, q⟩ := ofO_post h1
    exact ⟨x, r, G, L1, M1, m1, r1, e, q⟩
theorem pd_var {i : Nat} {x : Str} (hN : X.N[i]? = some x) (hv : Vis X.env.scope x) (hd : (x == ("__debug__" : Str)) = false) (hcd : (x == ("__classdict__" : Str)) = false) : PD X T W (eVar i) (.Name x pos) :=
  PE.imp (pe_var hN hv hd hcd) fun σ H Q h => by
    obtain ⟨ρ, G, L, M, s, h⟩ := h
    unfold eVar at h
    split at h
    · rename_i d e
      obtain ⟨v, e2, r⟩ := s.env i d e
      exact ⟨v, e2, h v H L Nxt.refl s.mr r⟩
    · exact h.elim
theorem pd_val {v : V} {d : D} {e : Expr} (he : PE X e (tC v)) (r : ∀ H G L M, RD X.K T H G L M v d) : PD X T W (eD d) e :=
  PE.imp he fun σ H Q h => by
    obtain ⟨ρ, G, L, M, s, h⟩ := h
    exact h v H L Nxt.refl s.mr (r _ _ _ _)
theorem pd_int {i : Int} {j : Nat} : PD X T W (eD (.p (.int i))) (.Constant (.int i) j pos) := pd_val pe_int fun _ _ _ _ => .p (.int i)
theorem pd_bool {i : Bool} {j : Nat} : PD X T W (eD (.p (.bool i))) (.Constant (.bool i) j pos) := pd_val pe_bl fun _ _ _ _ => .p (.bl i)
theorem pd_none {j : Nat} : PD X T W (eD (.p .none)) (.Constant .none j pos) := pd_val pe_non fun _ _ _ _ => .p .non
theorem pd_str {x : Str} {j : Nat} (h : x.length ≤ sizeLine) : PD X T W (eD (.p (.str x))) (.Constant (.str x) j pos) := pd_val pe_str fun _ _ _ _ => .p (.str x h)
/-- a if t else b -/
def eIf (t : TFn) (φ ψ : PFn) : PFn := fun ρ M => (t ρ M).bind fun b M1 => if b = true then φ ρ M1 else ψ ρ M1
theorem pd_if {t : TFn} (hc : TD X T W t c) (ha : PD X T W φ a) (hb : PD X T W ψ b) : PD X T W (eIf t φ ψ) (.IfExp c a b pos) :=
  PE.imp (pe_ifExp hc ha hb) fun σ H Q h => by
    obtain ⟨ρ, G, L, M, s, h⟩ := h
    refine ⟨ρ, G, L, M, s, (PostT.bind h).mono fun k H1 ⟨L1, M1, n1, m1, h1⟩ => ?_⟩
    cases k with
    | true => exact ⟨ρ, G, L1, M1, s.ext n1 m1, h1⟩
    | false => exact ⟨ρ, G, L1, M1, s.ext n1 m1, h1⟩
/-! tests -/
/-- the value must be True or False -/
def asB : D → Mem → Res Bool
  | .p (.bool b), M => .ok b M
  | _, _ => .bad
def tVal (φ : PFn) : TFn := fun ρ M => (stl (φ ρ M)).bind asB
theorem RD.bool {K : PySem.W.Frag} {H : Hp} {G : Addr → Prop} {L : List Addr} {M : Mem} {v : V} {b : Bool} (r : RD K T H G L M v (.p (.bool b))) : v = .bl b := by
  cases r with
  | p h => cases h; rfl
theorem RD.int {K : PySem.W.Frag} {H : Hp} {G : Addr → Prop} {L : List Addr} {M : Mem} {v : V} {b : Int} (r : RD K T H G L M v (.p (.int b))) : v = .int b := by
  cases r with
  | p h => cases h; rfl
theorem RD.str {K : PySem.W.Frag} {H : Hp} {G : Addr → Prop} {L : List Addr} {M : Mem} {v : V} {b : Str} (r : RD K T H G L M v (.p (.str b))) : v = .str b ∧ b.length ≤ sizeLine := by
  cases r with
  | p h => cases h with | str _ h => exact ⟨rfl, h⟩
theorem RD.none {K : PySem.W.Frag} {H : Hp} {G : Addr → Prop} {L : List Addr} {M : Mem} {v : V} (r : RD K T H G L M v (.p .none)) : v = .non := by
  cases r with
  | p h => cases h; rfl
theorem asB_post {K : PySem.W.Frag} {H : Hp} {G : Addr → Prop} {L : List Addr} {M : Mem} {v : V} {x : D} {Q : Bool → Hp → Prop} {E : XK} (m : MR K H G L M) (r : RD K T H G L M v x) (h : PostT K T H G L M (asB x M) Q E) : ∃ k, v = .bl k ∧ Q k H := by
  unfold asB at h
  split at h
  · exact ⟨_, r.bool, h H L Nxt.refl m⟩
  · exact h.elim
theorem td_val (ha : PD X T W φ a) (he : ∀ whole, isTrue a X.env whole = (do let v ← whole; standAt a.pos; holding [v] (truthy v))) : TD X T W (tVal φ) a :=
  PT.imp (pt_val ha he) fun σ H Q h => by
    obtain ⟨ρ, G, L, M, s, h⟩ := h
    refine ⟨ρ, G, L, M, s, (Post.bindT h).mono fun v H1 ⟨x, L1, M1, n1, m1, r1, h1⟩ => ?_⟩
    exact asB_post m1 r1 h1
theorem td_cmp {op : CmpOp} {g : D → D → Mem → Option Ev} (ho : OpG X T (compareOp op) g) (ha : PD X T W φ a) (hb : PD X T W ψ b) (hm : behindInMarks op b = false) : TD X T W (tVal (eBin g φ ψ)) (.Compare a [op] [b] pos) :=
  PT.imp (pt_cmpR ho ha hb hm) fun σ H Q h => by
    obtain ⟨ρ, G, L, M, s, h⟩ := h
    exact bin_go (f := compareOp op) ⟨ρ, G, L, M, s, (Post.bindT h).mono fun v H1 ⟨x, L1, M1, n1, m1, r1, h1⟩ => asB_post m1 r1 h1⟩
def tNot (t : TFn) : TFn := fun ρ M => (t ρ M).map (!·)
theorem PostT.map {K : PySem.W.Frag} {H : Hp} {G : Addr → Prop} {L : List Addr} {M : Mem} {r : Res Bool} {f : Bool → Bool} {Q : Bool → Hp → Prop} {E : XK} (h : PostT K T H G L M (r.map f) Q E) : PostT K T H G L M r (fun b H1 => Q (f b) H1) E := by
  cases r <;> exact h
theorem td_not {t : TFn} (ha : TD X T W t a) : TD X T W (tNot t) (.UnaryOp .Not a pos) :=
  PT.imp (pt_not ha) fun σ H Q h => by
    obtain ⟨ρ, G, L, M, s, h⟩ := h
    exact ⟨ρ, G, L, M, s, PostT.map h⟩
def tAnd (t u : TFn) : TFn := fun ρ M => (t ρ M).bind fun b M1 => if b = true then u ρ M1 else .ok false M1
def tOr (t u : TFn) : TFn := fun ρ M => (t ρ M).bind fun b M1 => if b = true then .ok true M1 else u ρ M1
/-- and, or: in a chain -/
def WD (X : Cx) (T : Tb) (W : WX) (φ : TFn) (e : Expr) : Prop := PW X e (tT X T W φ)
theorem PW.imp {e : Expr} {t t' : TT} (h : PW X e t) (i : ∀ σ H Q, t' σ H Q → t σ H Q) : PW X e t' := ⟨fun wh pins s σ H Q I q => h.run wh pins s σ H Q I (i σ H Q q)⟩
theorem wd_and1 {t : TFn} (ha : TD X T W t a) : WD X T W t (.BoolOp .And [a] pos) := pw_and1 ha
theorem wd_or1 {t : TFn} (ha : TD X T W t a) : WD X T W t (.BoolOp .Or [a] pos) := pw_or1 ha
theorem wd_and {t u : TFn} {rest : List Expr} (ha : TD X T W t a) (hb : WD X T W u (.BoolOp .And (b :: rest) pos)) : WD X T W (tAnd t u) (.BoolOp .And (a :: b :: rest) pos) :=
  PW.imp (pw_and ha hb) fun σ H Q h => by
    obtain ⟨ρ, G, L, M, s, h⟩ := h
    refine ⟨ρ, G, L, M, s, (PostT.bindT h).mono fun k H1 ⟨L1, M1, n1, m1, h1⟩ => ?_⟩
    cases k with
    | true => exact ⟨ρ, G, L1, M1, s.ext n1 m1, h1⟩
    | false => exact h1 H1 L1 Nxt.refl m1
theorem wd_or {t u : TFn} {rest : List Expr} (ha : TD X T W t a) (hb : WD X T W u (.BoolOp .Or (b :: rest) pos)) : WD X T W (tOr t u) (.BoolOp .Or (a :: b :: rest) pos) :=
  PW.imp (pw_or ha hb) fun σ H Q h => by
    obtain ⟨ρ, G, L, M, s, h⟩ := h
    refine ⟨ρ, G, L, M, s, (PostT.bindT h).mono fun k H1 ⟨L1, M1, n1, m1, h1⟩ => ?_⟩
    cases k with
    | false => exact ⟨ρ, G, L1, M1, s.ext n1 m1, h1⟩
    | true => exact h1 H1 L1 Nxt.refl m1
theorem td_bool {t : TFn} {e : Expr} (h : WD X T W t e) : TD X T W t e := PW.pt h
/-! and, or, not as values of True and False -/
def eAnd (φ ψ : PFn) : PFn := fun ρ M => ((stl (φ ρ M)).bind asB).bind fun b M1 => if b = true then ψ ρ M1 else .ok (.d (.p (.bool false))) M1
def eOr (φ ψ : PFn) : PFn := fun ρ M => ((stl (φ ρ M)).bind asB).bind fun b M1 => if b = true then .ok (.d (.p (.bool true))) M1 else ψ ρ M1
def eNot (φ : PFn) : PFn := fun ρ M => ((stl (φ ρ M)).bind asB).bind fun b M1 => .ok (.d (.p (.bool (!b)))) M1
theorem asB_bind {K : PySem.W.Frag} {H : Hp} {G : Addr → Prop} {L : List Addr} {M : Mem} {v : V} {x : D} {k : Bool → Mem → Res Ev} {Q : VK} {E : XK} (r : RD K T H G L M v x) (h : Post K T H G L M ((asB x M).bind k) Q E) : ∃ b, v = .bl b ∧ Post K T H G L M (k b M) Q E := by
  unfold asB at h
  split at h
  · exact ⟨_, r.bool, h⟩
  · exact h.elim
theorem pd_one {op : BoolOp} (h : PD X T W φ a) : PD X T W φ (.BoolOp op [a] pos) := pe_one h
theorem pd_and {rest : List Expr} (ha : PD X T W φ a) (hb : PD X T W ψ (.BoolOp .And (b :: rest) pos)) : PD X T W (eAnd φ ψ) (.BoolOp .And (a :: b :: rest) pos) :=
  PE.imp (pe_and ha hb) fun σ H Q h => by
    obtain ⟨ρ, G, L, M, s, h⟩ := h
    unfold eAnd at h
    rw [Res.bind_assoc] at h
    refine ⟨ρ, G, L, M, s, (Post.bind h).mono fun v H1 ⟨x, L1, M1, n1, m1, r1, h1⟩ => ?_⟩
    obtain ⟨k, e, h1⟩ := asB_bind r1 h1
    refine ⟨k, e, ?_⟩
    cases k with
    | true => exact ⟨ρ, G, L1, M1, s.ext n1 m1, h1⟩
    | false => exact h1 _ H1 L1 Nxt.refl m1 (.p (.bl _))
theorem pd_or {rest : List Expr} (ha : PD X T W φ a) (hb : PD X T W ψ (.BoolOp .Or (b :: rest) pos)) : PD X T W (eOr φ ψ) (.BoolOp .Or (a :: b :: rest) pos) :=
  PE.imp (pe_or ha hb) fun σ H Q h => by
    obtain ⟨ρ, G, L, M, s, h⟩ := h
    unfold eOr at h
    rw [Res.bind_assoc] at h
    refine ⟨ρ, G, L, M, s, (Post.bind h).mono fun v H1 ⟨x, L1, M1, n1, m1, r1, h1⟩ => ?_⟩
    obtain ⟨k, e, h1⟩ := asB_bind r1 h1
    refine ⟨k, e, ?_⟩
    cases k with
    | false => exact ⟨ρ, G, L1, M1, s.ext n1 m1, h1⟩
    | true => exact h1 _ H1 L1 Nxt.refl m1 (.p (.bl _))
theorem pd_not (ha : PD X T W φ a) : PD X T W (eNot φ) (.UnaryOp .Not a pos) :=
  PE.imp (pe_not ha) fun σ H Q h => by
    obtain ⟨ρ, G, L, M, s, h⟩ := h
    unfold eNot at h
    rw [Res.bind_assoc] at h
    refine ⟨ρ, G, L, M, s, (Post.bind h).mono fun v H1 ⟨x, L1, M1, n1, m1, r1, h1⟩ => ?_⟩
    obtain ⟨k, e, h1⟩ := asB_bind r1 h1
    exact ⟨k, e, h1 _ H1 L1 Nxt.refl m1 (.p (.bl _))⟩
end
end Cb

set_option Elab.async false
set_option linter.all false
set_option maxRecDepth 100000
/-! Cb, part C: the operators by values. -/
namespace Cb
open PySem PySem.Spec PyProof.Rows L2

/-- what a def's body always has around it -/
structure XOk (X : Cx) : Prop where
  calm : X.calm = true
  nd : X.N.Nodup
  hu : X.A.units + 200 < cLine
  hg : X.A.guards = some []

/-- the data that a value holds now -/
def pv : D → Mem → Option P
  | .p d, _ => some d
  | .obj n, M => match M[n]? with
    | some (.lst xs) => some (.list xs)
    | some (.dct kvs) => some (.dict kvs)
    | _ => none
  | _, _ => none
@[simp] theorem pv_p (d : P) (M : Mem) : pv (.p d) M = some d := rfl

section
variable {K : PySem.W.Frag} {T : Tb} {H : Hp} {G : Addr → Prop} {Fb : Addr → Prop} {L : List Addr} {M : Mem}
mutual
theorem Rp.dp : ∀ (d : P) (v : V), d.plain = true → Rp K H Fb v d → Dp K H v d
  | .none, _, _, h => by cases h; exact .non
  | .bool _, _, _, h => by cases h; exact .bl _
  | .int _, _, _, h => by cases h; exact .int _
  | .str _, _, _, h => by cases h; exact .str _
  | .list ds, _, p, h => by
    cases h with
    | lst h hn r => exact .lst (.inl (.inl h)) (RpAll.dp ds _ (by simpa [PyData.plain] using p) r)
  | .tuple ds, _, p, h => by
    cases h with
    | tup h hn r => exact .tup (.inl h) (RpAll.dp ds _ (by simpa [PyData.plain] using p) r)
    | tupK h1 h2 h3 h4 h5 r => exact .tup (.inr ⟨_, _, _, h1, h2, h3, h4, h5⟩) (RpAll.dp ds _ (by simpa [PyData.plain] using p) r)
  | .dict _, _, p, _ => by simp [PyData.plain] at p
theorem RpAll.dp : ∀ (ds : List P) (vs : List V), PyData.plainAll ds = true → RpAll K H Fb vs ds → DpAll K H vs ds
  | [], _, _, h => by cases h; exact .nil
  | d :: ds, _, p, h => by
    rw [PyData.plainAll, Bool.and_eq_true] at p
    cases h with
    | cons h t => exact .cons (Rp.dp d _ p.1 h) (RpAll.dp ds _ p.2 t)
end
/-- a list that is there: kept or changing -/
theorem pv_list (m : MR K H G L M) {v : V} {d : D} {xs : List P} (r : RD K T H G L M v d) (h : pv d M = some (.list xs)) : ∃ a vs, v = .ref a ∧ H a = some (.lst vs) ∧ RpAll K H (Fbd L M G) vs xs := by
  cases r with
  | p r =>
    simp only [pv_p, Option.some.injEq] at h
    subst h
    cases r with
    | lst h hn r => exact ⟨_, _, rfl, h, r⟩
  | @obj n a e =>
    unfold pv at h
    cases e2 : M[n]? with
    | none => simp [e2] at h
    | some o =>
      cases o with
      | dead => simp [e2] at h
      | lst ys =>
        simp [e2] at h
        subst h
        obtain ⟨ho, e3, c⟩ := m.at_ n a _ e e2 rfl
        cases c with
        | lst r => exact ⟨a, _, rfl, e3, r⟩
      | dct kvs => simp [e2] at h
  | fn _ => simp [pv] at h
  | ty _ => simp [pv] at h
  | frz _ _ => simp [pv] at h
theorem pv_tuple {v : V} {d : D} {xs : List P} (r : RD K T H G L M v d) (h : pv d M = some (.tuple xs)) : ∃ a vs, v = .ref a ∧ SqT K H a vs ∧ RpAll K H (Fbd L M G) vs xs ∧ Rp K H (Fbd L M G) (.ref a) (.tuple xs) := by
  cases r with
  | p r =>
    simp only [pv_p, Option.some.injEq] at h
    subst h
    cases r with
    | tup h hn r => exact ⟨_, _, rfl, .inl h, r, .tup h hn r⟩
    | tupK h1 h2 h3 h4 h5 r => exact ⟨_, _, rfl, .inr ⟨_, _, _, h1, h2, h3, h4, h5⟩, r, .tupK h1 h2 h3 h4 h5 r⟩
  | @obj n a e =>
    unfold pv at h
    cases e2 : M[n]? with
    | none => simp [e2] at h
    | some o => cases o <;> simp [e2] at h
  | fn _ => simp [pv] at h
  | ty _ => simp [pv] at h
  | frz _ _ => simp [pv] at h
theorem pv_flat {v : V} {d : D} {x : P} (r : RD K T H G L M v d) (h : pv d M = some x) (hx : (∀ xs, x ≠ .list xs) ∧ ∀ xs, x ≠ .dict xs) : d = .p x := by
  cases r with
  | p r =>
    simp only [pv_p, Option.some.injEq] at h
    rw [h]
  | @obj n a e =>
    unfold pv at h
    cases e2 : M[n]? with
    | none => simp [e2] at h
    | some o =>
      cases o with
      | dead => simp [e2] at h
      | lst ys => simp [e2] at h; exact absurd h.symm (hx.1 _)
      | dct ys => simp [e2] at h; exact absurd h.symm (hx.2 _)
  | fn _ => simp [pv] at h
  | ty _ => simp [pv] at h
  | frz _ _ => simp [pv] at h
theorem pv_int {v : V} {d : D} {i : Int} (r : RD K T H G L M v d) (h : pv d M = some (.int i)) : v = .int i := by
  have e := pv_flat r h ⟨fun _ z => (by cases z), fun _ z => (by cases z)⟩
  subst e; exact r.int
theorem pv_str {v : V} {d : D} {x : Str} (r : RD K T H G L M v d) (h : pv d M = some (.str x)) : v = .str x ∧ x.length ≤ sizeLine := by
  have e := pv_flat r h ⟨fun _ z => (by cases z), fun _ z => (by cases z)⟩
  subst e; exact r.str
theorem pv_bool {v : V} {d : D} {x : Bool} (r : RD K T H G L M v d) (h : pv d M = some (.bool x)) : v = .bl x := by
  have e := pv_flat r h ⟨fun _ z => (by cases z), fun _ z => (by cases z)⟩
  subst e; exact r.bool
/-- plain data may be read -/
theorem pv_dp (m : MR K H G L M) {v : V} {d : D} {x : P} (r : RD K T H G L M v d) (h : pv d M = some x) (hp : x.plain = true) : Dp K H v x := by
  cases x with
  | list xs =>
    obtain ⟨a, vs, rfl, h1, h2⟩ := pv_list m r h
    exact .lst (.inl (.inl h1)) (RpAll.dp xs _ (by simpa [PyData.plain] using hp) h2)
  | dict _ => simp [PyData.plain] at hp
  | none => have e := pv_flat r h ⟨fun _ z => (by cases z), fun _ z => (by cases z)⟩; subst e; cases r with | p r => exact Rp.dp _ _ hp r
  | bool _ => have e := pv_flat r h ⟨fun _ z => (by cases z), fun _ z => (by cases z)⟩; subst e; cases r with | p r => exact Rp.dp _ _ hp r
  | int _ => have e := pv_flat r h ⟨fun _ z => (by cases z), fun _ z => (by cases z)⟩; subst e; cases r with | p r => exact Rp.dp _ _ hp r
  | str _ => have e := pv_flat r h ⟨fun _ z => (by cases z), fun _ z => (by cases z)⟩; subst e; cases r with | p r => exact Rp.dp _ _ hp r
  | tuple _ => have e := pv_flat r h ⟨fun _ z => (by cases z), fun _ z => (by cases z)⟩; subst e; cases r with | p r => exact Rp.dp _ _ hp r
end
/-- plain, and not too deep -/
def okP (d : P) : Bool := d.plain && decide (d.depth ≤ 60)
theorem okP_plain {d : P} (h : okP d = true) : d.plain = true := by
  unfold okP at h; rw [Bool.and_eq_true] at h; exact h.1
theorem okP_depth {d : P} (h : okP d = true) : d.depth ≤ 60 := by
  unfold okP at h; rw [Bool.and_eq_true, decide_eq_true_eq] at h; exact h.2
theorem okP_pair {d e : P} (h : (okP d && okP e) = true) : okP d = true ∧ okP e = true := by rwa [Bool.and_eq_true] at h

section
variable {X : Cx} {T : Tb}
/-- an operation on two plain data that gives flat data -/
theorem op_of {f : Value → Value → Sem Value} {g : P → P → Option P} (hf : ∀ x y z, g x y = some z → ∀ (pins : List (Addr × Obj)) (s : Shared) (σ : L2.St) (H : Hp) (G : Addr → Prop) (L : List Addr) (M : Mem) (a b : V) (c d : D) (v u : Value) (Q : Value → Shared → Prop),
      Inv X pins σ H s → MR X.K H G L M → RD X.K T H G L M a c → RD X.K T H G L M b d → pv c M = some x → pv d M = some y → RelV a v → RelV b u → (∀ (s' : Shared) (w : V) (t : Value), Inv X pins σ H s' → RelV w t → RD X.K T H G L M w (.p z) → Q t s') → wpAny (model X.prog X.w) X.A (f v u) Q X.xe s) :
    OpG X T f (fun c d M => match pv c M, pv d M with
      | some x, some y => (g x y).map fun z => .d (.p z)
      | _, _ => none) := by
  intro pins s σ H a b v u Q I ra rb h
  obtain ⟨c, d, r, G, L, M, m, rc, rd, e, q⟩ := h
  dsimp only at e
  split at e
  · rename_i x y e1 e2
    cases e3 : g x y with
    | none => rw [e3] at e; cases e
    | some z =>
      rw [e3] at e
      cases e
      exact hf x y z e3 pins s σ H G L M a b c d v u _ I m rc rd e1 e2 ra rb fun s' w t I' rt rz => ⟨w, H, I', rt, q w H L Nxt.refl m rz⟩
  · cases e
def gEq (x y : P) : Option P := if (okP x && okP y) = true then some (.bool (PyData.eqv x y)) else none
def gNe (x y : P) : Option P := if (okP x && okP y) = true then some (.bool (!PyData.eqv x y)) else none
def onP (g : P → P → Option P) : D → D → Mem → Option Ev := fun c d M => match pv c M, pv d M with
  | some x, some y => (g x y).map fun z => .d (.p z)
  | _, _ => none
@[simp] theorem onP_p (g : P → P → Option P) (x y : P) (M : Mem) : onP g (.p x) (.p y) M = (g x y).map fun z => .d (.p z) := rfl
theorem og_eq (c : XOk X) : OpG X T (compareOp .Eq) (onP gEq) := op_of fun x y z e pins s σ H G L M a b c' d' v u Q I m r1 r2 e1 e2 ra rb q => by
  unfold gEq at e
  split at e
  · rename_i ho
    cases e
    obtain ⟨o1, o2⟩ := okP_pair ho
    obtain ⟨as, w1⟩ := Dp.reads I _ _ _ (pv_dp m r1 e1 (okP_plain o1)) ra
    obtain ⟨bs, w2⟩ := Dp.reads I _ _ _ (pv_dp m r2 e2 (okP_plain o2)) rb
    refine SeqAt.eq_plain w1 w2 (okP_plain o1) (okP_plain o2) ?_ (q s (.bl _) _ I rfl (.p (.bl _)))
    have := c.hu
    have := okP_depth o1
    have : min x.depth y.depth ≤ x.depth := Nat.min_le_left _ _
    omega
  · cases e
theorem og_ne (c : XOk X) : OpG X T (compareOp .NotEq) (onP gNe) := op_of fun x y z e pins s σ H G L M a b c' d' v u Q I m r1 r2 e1 e2 ra rb q => by
  unfold gNe at e
  split at e
  · rename_i ho
    cases e
    obtain ⟨o1, o2⟩ := okP_pair ho
    obtain ⟨as, w1⟩ := Dp.reads I _ _ _ (pv_dp m r1 e1 (okP_plain o1)) ra
    obtain ⟨bs, w2⟩ := Dp.reads I _ _ _ (pv_dp m r2 e2 (okP_plain o2)) rb
    refine SeqAt.ne_plain w1 w2 (okP_plain o1) (okP_plain o2) ?_ (q s (.bl _) _ I rfl (.p (.bl _)))
    have := c.hu
    have := okP_depth o1
    have : min x.depth y.depth ≤ x.depth := Nat.min_le_left _ _
    omega
  · cases e

theorem nofit (c : XOk X) {x y : P} (hx : okP x = true) : X.A.units + min x.depth y.depth < cLine := by
  have := c.hu
  have := okP_depth hx
  have : min x.depth y.depth ≤ x.depth := Nat.min_le_left _ _
  omega
def isNoneP : P → Bool
  | .none => true
  | _ => false
def cmpOk (x y : P) : Bool := okP x && okP y && PySem.W.alike x y && !isNoneP x
theorem cmpOk_and {x y : P} (h : cmpOk x y = true) : okP x = true ∧ okP y = true ∧ PySem.W.alike x y = true ∧ x ≠ .none := by
  unfold cmpOk at h
  simp only [Bool.and_eq_true, Bool.not_eq_true'] at h
  exact ⟨h.1.1.1, h.1.1.2, h.1.2, fun e => by rw [e] at h; exact absurd h.2 (by decide)⟩
def gLt (x y : P) : Option P := if cmpOk x y = true then some (.bool (PySem.W.dataLt x y)) else none
def gGt (x y : P) : Option P := if cmpOk x y = true then some (.bool (PySem.W.dataLt y x)) else none
def gLe (x y : P) : Option P := if cmpOk x y = true then some (.bool (!PySem.W.dataLt y x)) else none
def gGe (x y : P) : Option P := if cmpOk x y = true then some (.bool (!PySem.W.dataLt x y)) else none
theorem og_lt (c : XOk X) : OpG X T (compareOp .Lt) (onP gLt) := op_of fun x y z e pins s σ H G L M a b c' d' v u Q I m r1 r2 e1 e2 ra rb q => by
  unfold gLt at e
  split at e
  · rename_i ho
    cases e
    obtain ⟨o1, o2, al, nn⟩ := cmpOk_and ho
    obtain ⟨as, w1⟩ := Dp.reads I _ _ _ (pv_dp m r1 e1 (okP_plain o1)) ra
    obtain ⟨bs, w2⟩ := Dp.reads I _ _ _ (pv_dp m r2 e2 (okP_plain o2)) rb
    exact PySem.W.lt_data w1 w2 al nn (nofit c o1) (q s (.bl _) _ I rfl (.p (.bl _)))
  · cases e
theorem og_gt (c : XOk X) : OpG X T (compareOp .Gt) (onP gGt) := op_of fun x y z e pins s σ H G L M a b c' d' v u Q I m r1 r2 e1 e2 ra rb q => by
  unfold gGt at e
  split at e
  · rename_i ho
    cases e
    obtain ⟨o1, o2, al, nn⟩ := cmpOk_and ho
    obtain ⟨as, w1⟩ := Dp.reads I _ _ _ (pv_dp m r1 e1 (okP_plain o1)) ra
    obtain ⟨bs, w2⟩ := Dp.reads I _ _ _ (pv_dp m r2 e2 (okP_plain o2)) rb
    exact PySem.W.gt_data w1 w2 al nn (nofit c o1) (q s (.bl _) _ I rfl (.p (.bl _)))
  · cases e
theorem og_le (c : XOk X) : OpG X T (compareOp .LtE) (onP gLe) := op_of fun x y z e pins s σ H G L M a b c' d' v u Q I m r1 r2 e1 e2 ra rb q => by
  unfold gLe at e
  split at e
  · rename_i ho
    cases e
    obtain ⟨o1, o2, al, nn⟩ := cmpOk_and ho
    obtain ⟨as, w1⟩ := Dp.reads I _ _ _ (pv_dp m r1 e1 (okP_plain o1)) ra
    obtain ⟨bs, w2⟩ := Dp.reads I _ _ _ (pv_dp m r2 e2 (okP_plain o2)) rb
    exact PySem.W.le_data w1 w2 al nn (nofit c o1) (q s (.bl _) _ I rfl (.p (.bl _)))
  · cases e
theorem og_ge (c : XOk X) : OpG X T (compareOp .GtE) (onP gGe) := op_of fun x y z e pins s σ H G L M a b c' d' v u Q I m r1 r2 e1 e2 ra rb q => by
  unfold gGe at e
  split at e
  · rename_i ho
    cases e
    obtain ⟨o1, o2, al, nn⟩ := cmpOk_and ho
    obtain ⟨as, w1⟩ := Dp.reads I _ _ _ (pv_dp m r1 e1 (okP_plain o1)) ra
    obtain ⟨bs, w2⟩ := Dp.reads I _ _ _ (pv_dp m r2 e2 (okP_plain o2)) rb
    exact PySem.W.ge_data w1 w2 al nn (nofit c o1) (q s (.bl _) _ I rfl (.p (.bl _)))
  · cases e
/-! in, not in -/
def inP (x y : P) : Option Bool := match y with
  | .list ys => if (okP x && okP (.list ys)) = true then some (ys.any fun z => PyData.eqv z x) else none
  | .tuple ys => if (okP x && okP (.tuple ys)) = true then some (ys.any fun z => PyData.eqv z x) else none
  | .str t => match x with
    | .str u => match u.cps.toList with
      | [k] => some (decide (k ∈ t.cps.toList))
      | _ => none
    | _ => none
  | _ => none
def gIn (x y : P) : Option P := (inP x y).map .bool
def gNotIn (x y : P) : Option P := (inP x y).map fun b => .bool (!b)
theorem sign_of {u : Str} {k : Nat} (h : u.cps.toList = [k]) : u = ⟨#[k]⟩ := by
  cases u with
  | mk a => simp only at h; congr; exact Array.toList_inj.mp h
theorem okList {xs : List P} (h : okP (.list xs) = true) : PyData.plainAll xs = true := by simpa [PyData.plain] using okP_plain h
theorem okTuple {xs : List P} (h : okP (.tuple xs) = true) : PyData.plainAll xs = true := by simpa [PyData.plain] using okP_plain h
theorem infit (c : XOk X) {x : P} {n : Nat} (hx : okP x = true) : X.A.units + 1 + min n x.depth < cLine := by
  have := c.hu
  have := okP_depth hx
  have : min n x.depth ≤ x.depth := Nat.min_le_right _ _
  omega
theorem inP_cases {x y : P} {k : Bool} (h : inP x y = some k) : (∃ ys, y = .list ys) ∨ (∃ ys, y = .tuple ys) ∨ ∃ t, y = .str t := by
  cases y with
  | list ys => exact .inl ⟨ys, rfl⟩
  | tuple ys => exact .inr (.inl ⟨ys, rfl⟩)
  | str t => exact .inr (.inr ⟨t, rfl⟩)
  | none => cases h
  | bool _ => cases h
  | int _ => cases h
  | dict _ => cases h
theorem inP_str {x : P} {t : Str} {k : Bool} (h : inP x (.str t) = some k) : ∃ u c, x = .str u ∧ u.cps.toList = [c] ∧ k = decide (c ∈ t.cps.toList) := by
  unfold inP at h
  dsimp only at h
  cases x with
  | str u =>
    dsimp only at h
    split at h
    · rename_i c hc
      cases h
      exact ⟨u, c, rfl, hc, rfl⟩
    · cases h
  | none => cases h
  | bool _ => cases h
  | int _ => cases h
  | dict _ => cases h
  | list _ => cases h
  | tuple _ => cases h
theorem og_in (c : XOk X) : OpG X T (compareOp .In) (onP gIn) := op_of fun x y z e pins s σ H G L M a b c' d' v u Q I m r1 r2 e1 e2 ra rb q => by
  unfold gIn at e
  cases hb : inP x y with
  | none => rw [hb] at e; cases e
  | some k =>
    rw [hb] at e
    cases e
    have fin := q s (.bl k) _ I rfl (.p (.bl _))
    rcases inP_cases hb with ⟨ys, hy⟩ | ⟨ys, hy⟩ | ⟨t, hy⟩ <;> subst hy
    · unfold inP at hb
      dsimp only at hb
      split at hb
      · rename_i ho
        cases hb
        obtain ⟨o1, o2⟩ := okP_pair ho
        obtain ⟨as, w1⟩ := Dp.reads I _ _ _ (pv_dp m r1 e1 (okP_plain o1)) ra
        obtain ⟨bs, w2⟩ := Dp.reads I _ _ _ (pv_dp m r2 e2 (okP_plain o2)) rb
        exact SeqAt.in_list_data w2 w1 (okList o2) (okP_plain o1) (infit c o1) fin
      · cases hb
    · unfold inP at hb
      dsimp only at hb
      split at hb
      · rename_i ho
        cases hb
        obtain ⟨o1, o2⟩ := okP_pair ho
        obtain ⟨as, w1⟩ := Dp.reads I _ _ _ (pv_dp m r1 e1 (okP_plain o1)) ra
        obtain ⟨bs, w2⟩ := Dp.reads I _ _ _ (pv_dp m r2 e2 (okP_plain o2)) rb
        exact SeqAt.in_tuple_data w2 w1 (okTuple o2) (okP_plain o1) (infit c o1) fin
      · cases hb
    · obtain ⟨u', k', hx, hk, hv⟩ := inP_str hb
      subst hx; subst hv
      have ea := (pv_str r1 e1).1
      have eb := (pv_str r2 e2).1
      refine wpAny_mono (op_in_sign pins s σ H a b v u (fun w H' => w = .bl (decide (k' ∈ _)) ∧ H' = H) I ra rb ⟨k', _, by rw [ea, sign_of hk], eb, rfl, rfl⟩) (fun t' s' ⟨w, H', I', rt, e1, e2⟩ => ?_) fun _ _ h => h
      subst e1; subst e2
      exact q s' _ t' I' rt (.p (.bl _))
theorem og_notin (c : XOk X) : OpG X T (compareOp .NotIn) (onP gNotIn) := op_of fun x y z e pins s σ H G L M a b c' d' v u Q I m r1 r2 e1 e2 ra rb q => by
  unfold gNotIn at e
  cases hb : inP x y with
  | none => rw [hb] at e; cases e
  | some k =>
    rw [hb] at e
    cases e
    have fin := q s (.bl (!k)) _ I rfl (.p (.bl _))
    rcases inP_cases hb with ⟨ys, hy⟩ | ⟨ys, hy⟩ | ⟨t, hy⟩ <;> subst hy
    · unfold inP at hb
      dsimp only at hb
      split at hb
      · rename_i ho
        cases hb
        obtain ⟨o1, o2⟩ := okP_pair ho
        obtain ⟨as, w1⟩ := Dp.reads I _ _ _ (pv_dp m r1 e1 (okP_plain o1)) ra
        obtain ⟨bs, w2⟩ := Dp.reads I _ _ _ (pv_dp m r2 e2 (okP_plain o2)) rb
        exact SeqAt.notIn_list_data w2 w1 (okList o2) (okP_plain o1) (infit c o1) fin
      · cases hb
    · unfold inP at hb
      dsimp only at hb
      split at hb
      · rename_i ho
        cases hb
        obtain ⟨o1, o2⟩ := okP_pair ho
        obtain ⟨as, w1⟩ := Dp.reads I _ _ _ (pv_dp m r1 e1 (okP_plain o1)) ra
        obtain ⟨bs, w2⟩ := Dp.reads I _ _ _ (pv_dp m r2 e2 (okP_plain o2)) rb
        exact SeqAt.notIn_tuple_data w2 w1 (okTuple o2) (okP_plain o1) (infit c o1) fin
      · cases hb
    · obtain ⟨u', k', hx, hk, hv⟩ := inP_str hb
      subst hx; subst hv
      have ea := (pv_str r1 e1).1
      have eb := (pv_str r2 e2).1
      refine wpAny_mono (op_notIn_sign pins s σ H a b v u (fun w H' => w = .bl (!decide (k' ∈ _)) ∧ H' = H) I ra rb ⟨k', _, by rw [ea, sign_of hk], eb, rfl, rfl⟩) (fun t' s' ⟨w, H', I', rt, e1, e2⟩ => ?_) fun _ _ h => h
      subst e1; subst e2
      exact q s' _ t' I' rt (.p (.bl _))
/-! arithmetic -/
theorem of_opr {f : Value → Value → Sem Value} {r : R2} (h : OpR X f r) {pins : List (Addr × Obj)} {s : Shared} {σ : L2.St} {H : Hp} {a b w : V} {v u : Value} {Q : Value → Shared → Prop} (I : Inv X pins σ H s) (ra : RelV a v) (rb : RelV b u)
    (hr : ∀ Q' : VK, Q' w H → r a b H Q') (q : ∀ s' t, Inv X pins σ H s' → RelV w t → Q t s') : wpAny (model X.prog X.w) X.A (f v u) Q X.xe s :=
  wpAny_mono (h pins s σ H a b v u (fun w' H' => w' = w ∧ H' = H) I ra rb (hr _ ⟨rfl, rfl⟩)) (fun t' s' ⟨w', H', I', rt, e1, e2⟩ => by subst e1; subst e2; exact q s' t' I' rt) fun _ _ h => h
def ii (f : Int → Int → Option P) : P → P → Option P := fun x y => match x, y with
  | .int i, .int j => f i j
  | _, _ => none
@[simp] theorem ii_int (f : Int → Int → Option P) (i j : Int) : ii f (.int i) (.int j) = f i j := rfl
theorem og_int {f : Value → Value → Sem Value} {C : Int → Int → Prop} {g : Int → Int → Int} {h : Int → Int → Option P} (ho : OpR X f (rI C fun i j => .int (g i j))) (hh : ∀ i j z, h i j = some z → z = .int (g i j) ∧ C i j) : OpG X T f (onP (ii h)) :=
  op_of fun x y z e pins s σ H G L M a b c' d' v u Q I m r1 r2 e1 e2 ra rb q => by
    unfold ii at e
    split at e
    · rename_i i j
      obtain ⟨e3, hc⟩ := hh i j z e
      subst e3
      have ea := pv_int r1 e1
      have eb := pv_int r2 e2
      exact of_opr ho I ra rb (fun Q' q' => ⟨i, j, ea, eb, hc, q'⟩) fun s' t I' rt => q s' _ t I' rt (.p (.int _))
    · cases e
theorem rI_of {g : Int → Int → V} {f : Value → Value → Sem Value} (h : OpR X f (rI0 g)) : OpR X f (rI (fun _ _ => True) g) := fun pins s σ H x y v u Q I rx ry ⟨i, j, e1, e2, _, q⟩ => h pins s σ H x y v u Q I rx ry ⟨i, j, e1, e2, q⟩
def iSub (i j : Int) : Option P := some (.int (i - j))
@[irreducible] def cMul (i j : Int) : Bool := (decide (-(2 ^ 64) < i) && decide (i < 2 ^ 64)) || (decide (-(2 ^ 64) < j) && decide (j < 2 ^ 64))
def iMul (i j : Int) : Option P := if cMul i j = true then some (.int (i * j)) else none
def iDiv (i j : Int) : Option P := if 0 < j ∧ j < 1073741824 then some (.int (i / j)) else none
def iMod (i j : Int) : Option P := if 0 < j then some (.int (i % j)) else none
@[irreducible] def iPow (i j : Int) : Option P := if 0 ≤ j ∧ j ≤ 1000000 ∧ i.natAbs < 2 ^ 64 then some (.int (i ^ j.toNat)) else none
@[irreducible] def iShl (i j : Int) : Option P := if 0 ≤ j ∧ j ≤ 1000000 ∧ i.natAbs < 2 ^ 64 then some (.int (i * 2 ^ j.toNat)) else none
def iShr (i j : Int) : Option P := if 0 ≤ j then some (.int (i / 2 ^ j.toNat)) else none
def iAnd (i j : Int) : Option P := some (.int (Builtin.bitAnd i j))
def iOr (i j : Int) : Option P := some (.int (Builtin.bitOr i j))
theorem og_sub : OpG X T (binaryOp .Sub) (onP (ii iSub)) := og_int (rI_of op_sub) fun i j z e => by cases e; exact ⟨rfl, trivial⟩
theorem og_mul : OpG X T (binaryOp .Mult) (onP (ii iMul)) := og_int op_mul fun i j z e => by
  unfold iMul at e
  split at e
  · rename_i h
    cases e
    refine ⟨rfl, ?_⟩
    unfold cMul at h
    simp only [Bool.or_eq_true, Bool.and_eq_true, decide_eq_true_eq] at h
    exact h
  · cases e
theorem og_div : OpG X T (binaryOp .FloorDiv) (onP (ii iDiv)) := og_int op_fdiv fun i j z e => by
  unfold iDiv at e
  split at e
  · rename_i h; cases e; exact ⟨rfl, h⟩
  · cases e
theorem og_mod : OpG X T (binaryOp .Mod) (onP (ii iMod)) := og_int op_mod fun i j z e => by
  unfold iMod at e
  split at e
  · rename_i h; cases e; exact ⟨rfl, h⟩
  · cases e
theorem og_pow : OpG X T (binaryOp .Pow) (onP (ii iPow)) := og_int op_pow fun i j z e => by
  unfold iPow at e
  split at e
  · rename_i h; cases e; exact ⟨rfl, h⟩
  · cases e
theorem og_shl : OpG X T (binaryOp .LShift) (onP (ii iShl)) := og_int op_shl fun i j z e => by
  unfold iShl at e
  split at e
  · rename_i h; cases e; exact ⟨rfl, h⟩
  · cases e
theorem og_shr : OpG X T (binaryOp .RShift) (onP (ii iShr)) := og_int op_shr fun i j z e => by
  unfold iShr at e
  split at e
  · rename_i h; cases e; exact ⟨rfl, h⟩
  · cases e
theorem og_and : OpG X T (binaryOp .BitAnd) (onP (ii iAnd)) := og_int (rI_of op_and) fun i j z e => by cases e; exact ⟨rfl, trivial⟩
theorem og_or : OpG X T (binaryOp .BitOr) (onP (ii iOr)) := og_int (rI_of op_or) fun i j z e => by cases e; exact ⟨rfl, trivial⟩
/-- a + b -/
def dAdd : D → D → Mem → Option Ev := fun c d M => match pv c M, pv d M with
  | some (.int i), some (.int j) => some (.d (.p (.int (i + j))))
  | some (.str x), some (.str y) => if x.length + y.length ≤ sizeLine then some (.d (.p (.str (x ++ y)))) else none
  | some (.list xs), some (.list ys) => if xs.length + ys.length ≤ sizeLine then some (.new (.lst (xs ++ ys))) else none
  | some (.tuple xs), some (.tuple ys) => if xs.length + ys.length ≤ sizeLine then some (.d (.p (.tuple (xs ++ ys)))) else none
  | _, _ => none
theorem str_len_add (x y : Str) : (x ++ y).length = x.length + y.length := by
  show (x.cps ++ y.cps).size = _
  rw [Array.size_append]; rfl
theorem rd_lst {H : Hp} {a : Addr} {xs : List V} (h : Rd H a (.lst xs)) : SqL X.K H a xs := .inl h
/-- two lists in a row -/
theorem cat_lists {pins : List (Addr × Obj)} {s : Shared} {σ : L2.St} {H : Hp} {a b : Addr} {xs ys : List V} {v u : Value} {Q : VK} (I : Inv X pins σ H s) (ra : RelV (.ref a) v) (rb : RelV (.ref b) u) (ha : Rd H a (.lst xs)) (hb : Rd H b (.lst ys)) (hz : xs.length + ys.length ≤ sizeLine)
    (q : ∀ p, H p = none → Q (.ref p) (upd H p (.lst (xs ++ ys)))) : wpAny (model X.prog X.w) X.A (binaryOp .Add v u) (EP X pins σ Q) X.xe s := by
  cases ra
  cases rb
  obtain ⟨_, its, n, r, e⟩ := ha.ok I.hok
  obtain ⟨_, its2, n2, r2, e2⟩ := hb.ok I.hok
  have l1 := r.length
  have l2 := r2.length
  refine PySem.P.add_list e e2 ?_ (show its.toArray.size + its2.toArray.size ≤ sizeLine by rw [List.size_toArray, List.size_toArray]; omega)
  have ea : its.toArray ++ its2.toArray = (its ++ its2).toArray := by simp
  rw [ea]
  have hf : H s.heap.objs.size = none := I.hok.fresh (Nat.le_refl _)
  refine ⟨.ref s.heap.objs.size, _, I.laid (t' := s.toks) (a := s.heap.objs.size) (o := .lst (xs ++ ys)) (fun b u e => Heap.get?_push_of_some _ e) (Nat.le_refl _) ⟨by rw [List.length_append]; exact hz, its ++ its2, 0, r.append r2, Heap.get?_push_size _ rfl⟩, rfl, q _ hf⟩
theorem og_add (c : XOk X) : OpG X T (binaryOp .Add) dAdd := by
  intro pins s σ H a b v u Q I ra rb h
  obtain ⟨c', d', r, G, L, M, m, rc, rd, e, q⟩ := h
  unfold dAdd at e
  split at e
  · rename_i i j e1 e2
    cases e
    have ea := pv_int rc e1
    have eb := pv_int rd e2
    subst ea; subst eb
    exact op_add pins s σ H _ _ v u Q I ra rb ⟨i, j, rfl, rfl, q _ H L Nxt.refl m (.p (.int _))⟩
  · rename_i x y e1 e2
    split at e
    · rename_i hz
      cases e
      have ea := pv_str rc e1
      have eb := pv_str rd e2
      rw [ea.1] at ra; rw [eb.1] at rb
      exact op_add_str pins s σ H _ _ v u Q I ra rb ⟨x, y, rfl, rfl, hz, q _ H L Nxt.refl m (.p (.str _ (by rw [str_len_add]; exact hz)))⟩
    · cases e
  · rename_i xs ys e1 e2
    split at e
    · rename_i hz
      cases e
      obtain ⟨p1, vs, rfl, h1, l1⟩ := pv_list m rc e1
      obtain ⟨p2, us, rfl, h2, l2⟩ := pv_list m rd e2
      refine cat_lists I ra rb (.inl h1) (.inl h2) (by rw [l1.length, l2.length]; exact hz) fun p hp => ?_
      exact q p _ H L hp Nxt.refl m (.lst (l1.append l2))
    · cases e
  · rename_i xs ys e1 e2
    split at e
    · rename_i hz
      cases e
      obtain ⟨p1, vs, rfl, h1, l1, w1⟩ := pv_tuple rc e1
      obtain ⟨p2, us, rfl, h2, l2, w2⟩ := pv_tuple rd e2
      refine op_catA pins s σ H _ _ v u Q I ra rb ⟨p1, p2, vs, us, rfl, rfl, h1, h2, by rw [l1.length, l2.length]; exact hz, fun z => ?_, fun _ z => ?_, fun _ _ p hp => ?_⟩
      · have : xs = [] := by
          subst z; cases l1; rfl
        subst this
        exact q _ H L Nxt.refl m (.p w2)
      · have : ys = [] := by
          subst z; cases l2; rfl
        subst this
        rw [List.append_nil] at q
        exact q _ H L Nxt.refl m (.p w1)
      · refine q _ _ L (Nxt.fresh hp) (m.fresh hp) (.p (.tup (.inl upd_same) (m.free hp) (RpAll.ext (Nxt.fresh hp).keeps _ _ (l1.append l2))))
    · cases e
  · cases e
/-! is -/
def dIs : D → D → Mem → Option Ev := fun c d _ => match d with
  | .p .none => match c with
    | .p .none => some (.d (.p (.bool true)))
    | _ => some (.d (.p (.bool false)))
  | .p (.bool b) => match c with
    | .p (.bool a) => some (.d (.p (.bool (decide (a = b)))))
    | _ => none
  | _ => none
def dIsNot : D → D → Mem → Option Ev := fun c d _ => match d with
  | .p .none => match c with
    | .p .none => some (.d (.p (.bool false)))
    | _ => some (.d (.p (.bool true)))
  | .p (.bool b) => match c with
    | .p (.bool a) => some (.d (.p (.bool (!decide (a = b)))))
    | _ => none
  | _ => none
theorem rd_notnone {K : PySem.W.Frag} {H : Hp} {G : Addr → Prop} {L : List Addr} {M : Mem} {v : V} {c : D} (r : RD K T H G L M v c) (hc : c ≠ .p .none) : v ≠ .non := by
  intro e
  subst e
  cases r with
  | p r => cases r; exact hc rfl
theorem og_is : OpG X T (compareOp .Is) dIs := by
  intro pins s σ H a b v u Q I ra rb h
  obtain ⟨c', d', r, G, L, M, m, rc, rd, e, q⟩ := h
  unfold dIs at e
  split at e
  · have eb := rd.none
    subst eb
    split at e
    · cases e
      have ea := rc.none
      subst ea
      exact op_isN pins s σ H _ _ v u Q I ra rb ⟨rfl, q _ H L Nxt.refl m (.p (.bl _))⟩
    · rename_i hn
      cases e
      refine op_isN pins s σ H _ _ v u Q I ra rb ⟨rfl, ?_⟩
      rw [decide_eq_false (rd_notnone rc hn)]
      exact q _ H L Nxt.refl m (.p (.bl _))
  · have eb := rd.bool
    subst eb
    split at e
    · cases e
      have ea := rc.bool
      subst ea
      exact op_isBl pins s σ H _ _ v u Q I ra rb ⟨_, _, rfl, rfl, q _ H L Nxt.refl m (.p (.bl _))⟩
    · cases e
  · cases e
theorem og_isnot : OpG X T (compareOp .IsNot) dIsNot := by
  intro pins s σ H a b v u Q I ra rb h
  obtain ⟨c', d', r, G, L, M, m, rc, rd, e, q⟩ := h
  unfold dIsNot at e
  split at e
  · have eb := rd.none
    subst eb
    split at e
    · cases e
      have ea := rc.none
      subst ea
      exact op_notN pins s σ H _ _ v u Q I ra rb ⟨rfl, q _ H L Nxt.refl m (.p (.bl _))⟩
    · rename_i hn
      cases e
      refine op_notN pins s σ H _ _ v u Q I ra rb ⟨rfl, ?_⟩
      rw [decide_eq_false (rd_notnone rc hn)]
      exact q _ H L Nxt.refl m (.p (.bl _))
  · have eb := rd.bool
    subst eb
    split at e
    · cases e
      have ea := rc.bool
      subst ea
      exact op_notBl pins s σ H _ _ v u Q I ra rb ⟨_, _, rfl, rfl, q _ H L Nxt.refl m (.p (.bl _))⟩
    · cases e
  · cases e
def dNeg : D → Mem → Option Ev := fun c _ => match c with
  | .p (.int i) => some (.d (.p (.int (-i))))
  | _ => none
theorem ug_neg : UnG X T (unaryOp .USub) dNeg := by
  intro pins s σ H a v Q I ra h
  obtain ⟨c', r, G, L, M, m, rc, e, q⟩ := h
  unfold dNeg at e
  split at e
  · cases e
    have ea := rc.int
    subst ea
    exact un_neg pins s σ H _ v Q I ra ⟨_, rfl, q _ H L Nxt.refl m (.p (.int _))⟩
  · cases e
def dInv : D → Mem → Option Ev := fun c _ => match c with
  | .p (.int i) => some (.d (.p (.int (Builtin.bitNot i))))
  | _ => none
theorem ug_inv : UnG X T (unaryOp .Invert) dInv := by
  intro pins s σ H a v Q I ra h
  obtain ⟨c', r, G, L, M, m, rc, e, q⟩ := h
  unfold dInv at e
  split at e
  · cases e
    have ea := rc.int
    subst ea
    exact un_inv pins s σ H _ v Q I ra ⟨_, rfl, q _ H L Nxt.refl m (.p (.int _))⟩
  · cases e
end
/-- which operation an operator is -/
def binG : Operator → Option (D → D → Mem → Option Ev)
  | .Add => some dAdd
  | .Sub => some (onP (ii iSub))
  | .Mult => some (onP (ii iMul))
  | .FloorDiv => some (onP (ii iDiv))
  | .Mod => some (onP (ii iMod))
  | .Pow => some (onP (ii iPow))
  | .LShift => some (onP (ii iShl))
  | .RShift => some (onP (ii iShr))
  | .BitAnd => some (onP (ii iAnd))
  | .BitOr => some (onP (ii iOr))
  | _ => none
def cmpG : CmpOp → D → D → Mem → Option Ev
  | .Eq => onP gEq
  | .NotEq => onP gNe
  | .Lt => onP gLt
  | .LtE => onP gLe
  | .Gt => onP gGt
  | .GtE => onP gGe
  | .In => onP gIn
  | .NotIn => onP gNotIn
  | .Is => dIs
  | .IsNot => dIsNot
def unG : UnaryOp → Option (D → Mem → Option Ev)
  | .USub => some dNeg
  | .Invert => some dInv
  | _ => none
theorem binG_ok {X : Cx} {T : Tb} (c : XOk X) {op : Operator} {g : D → D → Mem → Option Ev} (h : binG op = some g) : OpG X T (binaryOp op) g := by
  cases op <;> first
    | (injection h with h; subst h; first | exact og_add c | exact og_sub | exact og_mul | exact og_div | exact og_mod | exact og_pow | exact og_shl | exact og_shr | exact og_and | exact og_or)
    | cases h
theorem cmpG_ok {X : Cx} {T : Tb} (c : XOk X) (op : CmpOp) : OpG X T (compareOp op) (cmpG op) := by
  cases op
  · exact og_eq c
  · exact og_ne c
  · exact og_lt c
  · exact og_le c
  · exact og_gt c
  · exact og_ge c
  · exact og_is
  · exact og_isnot
  · exact og_in c
  · exact og_notin c
theorem unG_ok {X : Cx} {T : Tb} {op : UnaryOp} {g : D → Mem → Option Ev} (h : unG op = some g) : UnG X T (unaryOp op) g := by
  cases op <;> first
    | (injection h with h; subst h; first | exact ug_neg | exact ug_inv)
    | cases h
end Cb

set_option Elab.async false
set_option linter.all false
set_option maxRecDepth 100000
/-! Cb, part D: arguments, displays, subscripts, slices, calls of built-ins, methods and defs. -/
namespace Cb
open PySem PySem.Spec PyProof.Rows L2

/-! ### arguments -/
def starB : Expr → Bool
  | .Starred .. => true
  | _ => false
theorem star_cons {e : Expr} {es : List Expr} {env : PySem.Env} (h : starB e = false) : starEach (e :: es) env = (false, eval e env) :: starEach es env := by
  cases e <;> first | rfl | cases h
theorem star_any {es : List Expr} {env : PySem.Env} {pos : Pos} (h : es.any starB = false) : (backTo pos (starEach es env)).any (·.1) = false := by
  induction es with
  | nil => rfl
  | cons e es ih =>
    rw [List.any_cons, Bool.or_eq_false_iff] at h
    rw [star_cons h.1]
    show (false || (backTo pos (starEach es env)).any (·.1)) = false
    rw [ih h.2]; rfl
def aNil : AFn := fun _ M => .ok [] M
def aCons (φ : PFn) (ψ : AFn) : AFn := fun ρ M => (stl (φ ρ M)).bind fun x M1 => (ψ ρ M1).bind fun xs M2 => .ok (x :: xs) M2
section
variable {X : Cx} {T : Tb} {W : WX} {a b e : Expr} {es : List Expr} {φ ψ : PFn} {α : AFn} {pos : Pos}
theorem ad_nil : AD X T W aNil [] := PA.imp pa_nil fun σ H Q h => by
  obtain ⟨ρ, G, L, M, s, h⟩ := h
  exact h [] H L Nxt.refl s.mr .nil
theorem ad_cons (hs : starB e = false) (he : PD X T W φ e) (hr : AD X T W α es) : AD X T W (aCons φ α) (e :: es) := PA.imp (pa_cons he hr (star_cons hs)) fun σ H Q h => by
  obtain ⟨ρ, G, L, M, s, h⟩ := h
  refine ⟨ρ, G, L, M, s, (Post.bindA h).mono fun v H1 ⟨x, L1, M1, n1, m1, r1, h1⟩ => ?_⟩
  refine ⟨ρ, G, L1, M1, s.ext n1 m1, (PostA.bindA h1).mono fun vs H2 ⟨ds, L2, M2, n2, m2, r2, h2⟩ => ?_⟩
  exact h2 _ H2 L2 Nxt.refl m2 (.cons (r1.ext n2) r2)

/-! ### displays: what is put into a container is plain from now on -/
/-- plain data out of a value; a changing object is changed no more -/
def pur : D → Mem → Option (P × Mem)
  | .p d, M => some (d, M)
  | .obj n, M => match M[n]? with
    | some (.lst xs) => some (.list xs, M.set n .dead)
    | some (.dct kvs) => some (.dict kvs, M.set n .dead)
    | _ => none
  | _, _ => none
@[simp] theorem pur_p (d : P) (M : Mem) : pur (.p d) M = some (d, M) := rfl
theorem pur_ok {K : PySem.W.Frag} {H : Hp} {G : Addr → Prop} {L : List Addr} {M M' : Mem} {v : V} {d : D} {x : P} (m : MR K H G L M) (r : RD K T H G L M v d) (h : pur d M = some (x, M')) : Nxt H L M H L M' ∧ MR K H G L M' ∧ Rp K H (Fbd L M' G) v x := by
  cases r with
  | p r => simp only [pur_p, Option.some.injEq, Prod.mk.injEq] at h; obtain ⟨e1, e2⟩ := h; subst e1; subst e2; exact ⟨Nxt.refl, m, r⟩
  | @obj n a e =>
    unfold pur at h
    cases e2 : M[n]? with
    | none => simp [e2] at h
    | some o =>
      cases o with
      | dead => simp [e2] at h
      | lst xs => simp [e2] at h; obtain ⟨e3, e4⟩ := h; subst e3; subst e4; exact ⟨Nxt.freeze, m.freeze, m.frozen e e2 rfl⟩
      | dct xs => simp [e2] at h; obtain ⟨e3, e4⟩ := h; subst e3; subst e4; exact ⟨Nxt.freeze, m.freeze, m.frozen e e2 rfl⟩
  | fn _ => simp [pur] at h
  | ty _ => simp [pur] at h
  | frz _ _ => simp [pur] at h
def purs : List D → Mem → Option (List P × Mem)
  | [], M => some ([], M)
  | d :: ds, M => match pur d M with
    | some (x, M1) => match purs ds M1 with
      | some (xs, M2) => some (x :: xs, M2)
      | none => none
    | none => none
@[simp] theorem purs_nil (M : Mem) : purs [] M = some ([], M) := rfl
@[simp] theorem purs_cons_p (d : P) (ds : List D) (M : Mem) : purs (.p d :: ds) M = match purs ds M with
      | some (xs, M2) => some (d :: xs, M2)
      | none => none := rfl
theorem purs_ok {K : PySem.W.Frag} {H : Hp} {G : Addr → Prop} {L : List Addr} : ∀ {ds : List D} {M M' : Mem} {vs : List V} {xs : List P}, MR K H G L M → RDs K T H G L M vs ds → purs ds M = some (xs, M') → Nxt H L M H L M' ∧ MR K H G L M' ∧ RpAll K H (Fbd L M' G) vs xs
  | [], M, M', vs, xs, m, r, h => by
    simp only [purs_nil, Option.some.injEq, Prod.mk.injEq] at h
    obtain ⟨e1, e2⟩ := h; subst e1; subst e2
    cases r
    exact ⟨Nxt.refl, m, .nil⟩
  | d :: ds, M, M', vs, xs, m, r, h => by
    unfold purs at h
    cases r with
    | cons r rs =>
      split at h
      · rename_i x M1 e1
        split at h
        · rename_i xs' M2 e2
          cases h
          obtain ⟨n1, m1, q1⟩ := pur_ok m r e1
          obtain ⟨n2, m2, q2⟩ := purs_ok m1 (RDs.ext n1 rs) e2
          exact ⟨n1.trans n2, m2, .cons (Rp.ext n2.keeps _ _ q1) q2⟩
        · cases h
      · cases h
def eTup (ψ : AFn) : PFn := fun ρ M => (ψ ρ M).bind fun ds M1 => match purs ds M1 with
  | some (xs, M2) => if xs.length ≤ sizeLine then .ok (.d (.p (.tuple xs))) M2 else .bad
  | none => .bad
def eLst (ψ : AFn) : PFn := fun ρ M => (ψ ρ M).bind fun ds M1 => match purs ds M1 with
  | some (xs, M2) => if xs.length ≤ sizeLine then .ok (.new (.lst xs)) M2 else .bad
  | none => .bad
theorem pd_tup {x1 : Nat} (h : AD X T W α es) : PD X T W (eTup α) (.Tuple es x1 pos) := PE.imp (pe_tup h) fun σ H Q h => by
  obtain ⟨ρ, G, L, M, s, h⟩ := h
  refine ⟨ρ, G, L, M, s, (PostA.bind h).mono fun vs H1 ⟨ds, L1, M1, n1, m1, r1, h1⟩ => ?_⟩
  split at h1
  · rename_i xs M2 e
    obtain ⟨n2, m2, q⟩ := purs_ok m1 r1 e
    split at h1
    · rename_i hz
      refine ⟨by rw [q.length]; exact hz, fun p hp => ?_⟩
      exact h1 _ _ L1 (n2.trans (Nxt.fresh hp)) (m2.fresh hp) (.p (.tup (.inl upd_same) (m2.free hp) (RpAll.ext (Nxt.fresh hp).keeps _ _ q)))
    · exact h1.elim
  · exact h1.elim
theorem pd_lst (h : AD X T W α es) : PD X T W (eLst α) (.List es pos) := PE.imp (pe_lst h) fun σ H Q h => by
  obtain ⟨ρ, G, L, M, s, h⟩ := h
  refine ⟨ρ, G, L, M, s, (PostA.bind h).mono fun vs H1 ⟨ds, L1, M1, n1, m1, r1, h1⟩ => ?_⟩
  split at h1
  · rename_i xs M2 e
    obtain ⟨n2, m2, q⟩ := purs_ok m1 r1 e
    split at h1
    · rename_i hz
      exact ⟨by rw [q.length]; exact hz, fun p hp => h1 p _ H1 L1 hp n2 m2 (.lst q)⟩
    · exact h1.elim
  · exact h1.elim

/-! ### subscripts -/
/-- the item of a dict -/
def keqP : P → P → Bool
  | .int i, .int j => i == j
  | .str x, .str y => x == y
  | _, _ => false
def dgetP (kvs : List (P × P)) (k : P) : Option P := (kvs.find? fun kv => keqP kv.1 k).map (·.2)
def dputP (kvs : List (P × P)) (k v : P) : List (P × P) := if (kvs.any fun kv => keqP kv.1 k) = true then kvs.map (fun kv => if keqP kv.1 k = true then (kv.1, v) else kv) else kvs ++ [(k, v)]
/-- what is a key of such a dict -/
def keyOf : P → Option Key
  | .int i => some (.inl i)
  | .str x => some (.inr x)
  | _ => none
theorem keyOf_P {k : P} {q : Key} (h : keyOf k = some q) : k = keyP q := by
  cases k <;> simp [keyOf] at h <;> subst h <;> rfl
theorem keqP_P (a b : Key) : keqP (keyP a) (keyP b) = decide (a = b) := by
  cases a with
  | inl i =>
    cases b with
    | inl j => show (i == j) = _; rw [key_ll]
    | inr y => show false = _; rw [key_lr]
  | inr x =>
    cases b with
    | inl j => show false = _; rw [key_rl]
    | inr y => show (x == y) = _; rw [key_rr, Bool.beq_eq_decide_eq]
section
variable {K : PySem.W.Frag} {H : Hp} {Fb : Addr → Prop}
theorem RpKV.get : ∀ {kvs : List (Key × V)} {ds : List (P × P)} {q : Key} {d : P}, RpKV K H Fb kvs ds → dgetP ds (keyP q) = some d → ∃ v, valV kvs q = some v ∧ Rp K H Fb v d
  | _, _, _, _, .nil, h => by simp [dgetP] at h
  | _, _, q, d, .cons (k := k) (v := v) (vs := vs) (d := d') (ds := ds) r t, h => by
    unfold dgetP at h
    rw [List.find?_cons, keqP_P] at h
    by_cases e : k = q
    · rw [decide_eq_true e] at h
      simp at h
      subst h
      exact ⟨v, valV_pos e, r⟩
    · rw [decide_eq_false e] at h
      obtain ⟨v', h1, h2⟩ := RpKV.get (q := q) (d := d) t h
      exact ⟨v', by rw [valV_neg e]; exact h1, h2⟩
theorem RpKV.has : ∀ {kvs : List (Key × V)} {ds : List (P × P)} {q : Key}, RpKV K H Fb kvs ds → (ds.any fun kv => keqP kv.1 (keyP q)) = (kvs.any fun kv => decide (kv.1 = q))
  | _, _, _, .nil => rfl
  | _, _, q, .cons (k := k) r t => by
    rw [List.any_cons, List.any_cons, keqP_P, RpKV.has t]
theorem RpKV.snoc : ∀ {kvs : List (Key × V)} {ds : List (P × P)} {q : Key} {v : V} {d : P}, RpKV K H Fb kvs ds → Rp K H Fb v d → RpKV K H Fb (kvs ++ [(q, v)]) (ds ++ [(keyP q, d)])
  | _, _, _, _, _, .nil, r => .cons r .nil
  | _, _, _, _, _, .cons r0 t, r => .cons r0 (RpKV.snoc t r)
theorem RpKV.repl : ∀ {kvs : List (Key × V)} {ds : List (P × P)} {q : Key} {v : V} {d : P}, RpKV K H Fb kvs ds → Rp K H Fb v d →
    RpKV K H Fb (kvs.map fun kv => if kv.1 = q then (kv.1, v) else kv) (ds.map fun kv => if keqP kv.1 (keyP q) = true then (kv.1, d) else kv)
  | _, _, _, _, _, .nil, _ => .nil
  | _, _, q, v, d, .cons (k := k) (v := v0) (d := d0) r0 t, r => by
    rw [List.map_cons, List.map_cons]
    by_cases e : k = q
    · simp only [keqP_P, if_pos e, decide_eq_true e, if_true]
      exact .cons r (RpKV.repl t r)
    · simp only [keqP_P, if_neg e, decide_eq_false e, Bool.false_eq_true, if_false]
      exact .cons r0 (RpKV.repl t r)
theorem RpKV.put {kvs : List (Key × V)} {ds : List (P × P)} {q : Key} {v : V} {d : P} (t : RpKV K H Fb kvs ds) (r : Rp K H Fb v d) : RpKV K H Fb (putK kvs q v) (dputP ds (keyP q) d) := by
  unfold putK dputP
  rw [t.has (q := q)]
  split
  · exact t.repl r
  · exact t.snoc r
theorem RpKV.length : ∀ {kvs : List (Key × V)} {ds : List (P × P)}, RpKV K H Fb kvs ds → kvs.length = ds.length
  | _, _, .nil => rfl
  | _, _, .cons _ t => by rw [List.length_cons, List.length_cons, t.length]
theorem rp_key {q : Key} (h : ∀ x, q = .inr x → x.length ≤ sizeLine) : Rp K H Fb (kV q) (keyP q) := by
  cases q with
  | inl i => exact .int i
  | inr x => exact .str x (h x rfl)
theorem kV_of {v : V} {k : P} {q : Key} (r : Rp K H Fb v k) (h : keyOf k = some q) : v = kV q := by
  rw [keyOf_P h] at r
  cases q with
  | inl i => cases r; rfl
  | inr x => cases r; rfl
end
theorem pv_dict {K : PySem.W.Frag} {H : Hp} {G : Addr → Prop} {L : List Addr} {M : Mem} (m : MR K H G L M) {v : V} {d : D} {xs : List (P × P)} (r : RD K T H G L M v d) (h : pv d M = some (.dict xs)) : ∃ a kvs, v = .ref a ∧ Rd H a (.dK kvs) ∧ RpKV K H (Fbd L M G) kvs xs := by
  cases r with
  | p r =>
    simp only [pv_p, Option.some.injEq] at h
    subst h
    cases r with
    | dct h hn r => exact ⟨_, _, rfl, h, r⟩
  | @obj n a e =>
    unfold pv at h
    cases e2 : M[n]? with
    | none => simp [e2] at h
    | some o =>
      cases o with
      | dead => simp [e2] at h
      | lst ys => simp [e2] at h
      | dct kvs =>
        simp [e2] at h
        subst h
        obtain ⟨ho, e3, c⟩ := m.at_ n a _ e e2 rfl
        cases c with
        | dct r => exact ⟨a, _, rfl, .inl e3, r⟩
  | fn _ => simp [pv] at h
  | ty _ => simp [pv] at h
  | frz _ _ => simp [pv] at h
/-- a[i] -/
def dSub : D → D → Mem → Option Ev := fun c d M => match pv c M with
  | some (.list xs) => match d with
    | .p (.int i) => (atI xs i).map fun z => .d (.p z)
    | _ => none
  | some (.tuple xs) => match d with
    | .p (.int i) => (atI xs i).map fun z => .d (.p z)
    | _ => none
  | some (.str x) => match d with
    | .p (.int i) => (atI x.cps.toList i).map fun k => .d (.p (.str ⟨#[k]⟩))
    | _ => none
  | some (.dict kvs) => match d with
    | .p k => match keyOf k with
      | some _ => (dgetP kvs k).map fun z => .d (.p z)
      | none => none
    | _ => none
  | _ => none
theorem rp_atI {K : PySem.W.Frag} {H : Hp} {Fb : Addr → Prop} {vs : List V} {ds : List P} {i : Int} {d : P} (r : RpAll K H Fb vs ds) (h : atI ds i = some d) : ∃ v, atI vs i = some v ∧ Rp K H Fb v d := by
  unfold atI at h ⊢
  rw [← r.length] at h
  cases e : ixN vs.length i with
  | none => rw [e] at h; cases h
  | some j => rw [e] at h; exact r.get h
theorem one_le_line : 1 ≤ sizeLine := by rw [sizeLine_eq]; decide
/-- a dict's item, by values -/
theorem ix_dict (hu : X.A.units + 1 < cLine) : IxR X (fun x y H Q => ∃ a v, x = .ref a ∧ DGet H a y (some v) ∧ Q v H) := by
  intro value slice pins s σ H x y v u Q I rx ry h hs
  obtain ⟨a, z, rfl, g, q⟩ := h
  cases rx
  exact tail_any (dict_typeIs I g) PySem.F.slot_dict_getitem.lookup (d_getItem (Q := EP X pins σ Q) hu I g ry fun w' s3 I3 rw' => ⟨z, H, I3, rw', q⟩) hs

def IxG (X : Cx) (T : Tb) (g : D → D → Mem → Option Ev) : Prop :=
  IxR X fun x y H Q => ∃ a b r G L M, MR X.K H G L M ∧ RD X.K T H G L M x a ∧ RD X.K T H G L M y b ∧ g a b M = some r ∧ Post X.K T H G L M (.ok r M) Q never
theorem ig_sub (c : XOk X) : IxG X T dSub := by
  intro value slice pins s σ H x y v u Q I rx ry h hs
  obtain ⟨a, b, r, G, L, M, m, ra, rb, e, q⟩ := h
  unfold dSub at e
  split at e
  · rename_i xs e1
    split at e
    · rename_i i
      obtain ⟨p, vs, rfl, h1, r1⟩ := pv_list m ra e1
      cases hz : atI xs i with
      | none => rw [hz] at e; cases e
      | some z =>
        rw [hz] at e; cases e
        obtain ⟨w, hw, rw'⟩ := rp_atI r1 hz
        exact ix_list value slice pins s σ H _ _ v u Q I rx ry ⟨p, vs, i, w, rfl, rb.int, .inl (.inl h1), hw, q w H L Nxt.refl m (.p rw')⟩ hs
    · cases e
  · rename_i xs e1
    split at e
    · rename_i i
      obtain ⟨p, vs, rfl, h1, r1, _⟩ := pv_tuple ra e1
      cases hz : atI xs i with
      | none => rw [hz] at e; cases e
      | some z =>
        rw [hz] at e; cases e
        obtain ⟨w, hw, rw'⟩ := rp_atI r1 hz
        exact ix_tup value slice pins s σ H _ _ v u Q I rx ry ⟨p, vs, i, w, rfl, rb.int, h1, hw, q w H L Nxt.refl m (.p rw')⟩ hs
    · cases e
  · rename_i z e1
    split at e
    · rename_i i
      obtain ⟨ez, hl⟩ := pv_str ra e1
      cases hz : atI z.cps.toList i with
      | none => rw [hz] at e; cases e
      | some k =>
        rw [hz] at e; cases e
        exact ix_str value slice pins s σ H _ _ v u Q I rx ry ⟨z, i, k, ez, rb.int, hl, hz, q _ H L Nxt.refl m (.p (.str _ one_le_line))⟩ hs
    · cases e
  · rename_i kvs e1
    split at e
    · rename_i k
      split at e
      · rename_i qk hk
        obtain ⟨p, vs, rfl, h1, r1⟩ := pv_dict m ra e1
        cases hz : dgetP kvs k with
        | none => rw [hz] at e; cases e
        | some z =>
          rw [hz] at e; cases e
          have ek := keyOf_P hk
          rw [ek] at hz
          obtain ⟨w, hw, rw'⟩ := r1.get hz
          have ey : y = kV qk := by cases rb with | p rb => exact kV_of rb hk
          refine ix_dict (by have := c.hu; omega) value slice pins s σ H _ _ v u Q I rx ry ⟨p, w, rfl, .inl ⟨vs, qk, h1, ey, hw.symm⟩, q w H L Nxt.refl m (.p rw')⟩ hs
      · cases e
    · cases e
  · cases e
def ixB : Expr → Bool
  | .Slice .. => false
  | .Tuple .. => false
  | _ => true
theorem plainIx {b : Expr} (h : ixB b = true) : PlainIx b := by
  cases b <;> first | (intro _ _; rfl) | cases h
theorem pd_sub (c : XOk X) (ha : PD X T W φ a) (hb : PD X T W ψ b) (h : ixB b = true) : PD X T W (eBin dSub φ ψ) (.Subscript a b pos) :=
  PE.imp (pe_ix (ig_sub (T := T) c) ha hb (plainIx h)) fun σ H Q h => bin_go (f := binaryOp .Add) h
/-! ### slices -/
def cutP (xs : List P) (lo hi : Option Int) : List P := (xs.drop (HT.sIx xs.length 0 lo)).take (HT.sIx xs.length xs.length hi - HT.sIx xs.length 0 lo)
theorem rp_cut {K : PySem.W.Frag} {H : Hp} {Fb : Addr → Prop} {vs : List V} {ds : List P} (r : RpAll K H Fb vs ds) (lo hi : Option Int) : RpAll K H Fb (cutV vs lo hi) (cutP ds lo hi) := by
  unfold cutV cutP
  rw [r.length]
  exact (r.drop _).take _
def dSl (lo hi : Option Int) : D → Mem → Option Ev := fun c M => match c with
  | .frz xs => some (.new (.lst (cutP xs lo hi)))
  | c => match pv c M with
  | some (.list xs) => some (.new (.lst (cutP xs lo hi)))
  | some (.tuple xs) => some (.d (.p (.tuple (cutP xs lo hi))))
  | _ => none
def SlG (X : Cx) (T : Tb) (g : Option Int → Option Int → D → Mem → Option Ev) : Prop :=
  SlR X fun x lo hi H Q => ∃ a r G L M, MR X.K H G L M ∧ RD X.K T H G L M x a ∧ g lo hi a M = some r ∧ Post X.K T H G L M (.ok r M) Q never
theorem sg_sl : SlG X T dSl := by
  intro pins s σ H x v vl vu lo hi sl Q I rx hs pl pu h
  obtain ⟨a, r, G, L, M, m, ra, e, q⟩ := h
  unfold dSl at e
  split at e
  · cases e
    cases ra with
    | @frz p vs xs h1 r1 =>
    exact sl_list pins s σ H _ v vl vu lo hi sl Q I rx hs pl pu ⟨p, vs, rfl, h1.sq, fun p' hp => q p' _ H L hp Nxt.refl m (.lst (rp_cut r1 lo hi))⟩
  split at e
  · rename_i xs e1
    obtain ⟨p, vs, rfl, h1, r1⟩ := pv_list m ra e1
    cases e
    exact sl_list pins s σ H _ v vl vu lo hi sl Q I rx hs pl pu ⟨p, vs, rfl, .inl (.inl h1), fun p' hp => q p' _ H L hp Nxt.refl m (.lst (rp_cut r1 lo hi))⟩
  · rename_i xs e1
    obtain ⟨p, vs, rfl, h1, r1, rt⟩ := pv_tuple ra e1
    cases e
    refine sl_tupA pins s σ H _ v vl vu lo hi sl Q I rx hs pl pu ⟨p, vs, rfl, h1, fun hw => ?_, fun _ p' hp => ?_⟩
    · have ec : cutP xs lo hi = xs := by
        unfold cutP
        rw [r1.length] at hw
        rw [hw.1, hw.2]
        simp
      rw [ec] at q
      exact q _ H L Nxt.refl m (.p rt)
    · exact q _ _ L (Nxt.fresh hp) (m.fresh hp) (.p (.tup (.inl upd_same) (m.free hp) (RpAll.ext (Nxt.fresh hp).keeps _ _ (rp_cut r1 lo hi))))
  · cases e
/-- a bound of a slice -/
def asI : D → Option Int
  | .p (.int i) => some i
  | _ => none
abbrev OFn := Env → Mem → Res (Option Int)
def oNone : OFn := fun _ M => .ok none M
def oSome (φ : PFn) : OFn := fun ρ M => (stl (φ ρ M)).bind fun x M1 => match asI x with
  | some i => .ok (some i) M1
  | none => .bad
def PostO (K : PySem.W.Frag) (T : Tb) (H : Hp) (G : Addr → Prop) (L : List Addr) (M : Mem) (r : Res (Option Int)) (Q : Option Int → Hp → Prop) (E : XK) : Prop :=
  match r with
  | .ok b M' => ∀ H' L', Nxt H L M H' L' M' → MR K H' G L' M' → Q b H'
  | .err x M' => ∀ cls d H' L', Nxt H L M H' L' M' → MR K H' G L' M' → XR K T H' (Fbd L' M' G) x cls d → E cls d H'
  | .bad => False
theorem PostO.start {K : PySem.W.Frag} {H H1 : Hp} {G : Addr → Prop} {L L1 : List Addr} {M M1 : Mem} {r : Res (Option Int)} {Q : Option Int → Hp → Prop} {E : XK} (x : Nxt H L M H1 L1 M1) (h : PostO K T H G L M r Q E) : PostO K T H1 G L1 M1 r Q E := by
  cases r with
  | ok e M' => exact fun H' L' n m => h H' L' (x.trans n) m
  | err y M' => exact fun cls d H' L' n m q => h cls d H' L' (x.trans n) m q
  | bad => exact h
theorem Post.bindO {K : PySem.W.Frag} {H : Hp} {G : Addr → Prop} {L : List Addr} {M : Mem} {r : Res Ev} {k : D → Mem → Res (Option Int)} {Q : Option Int → Hp → Prop} {E : XK} (h : PostO K T H G L M ((stl r).bind k) Q E) :
    Post K T H G L M r (fun v H1 => ∃ x L1 M1, Nxt H L M H1 L1 M1 ∧ MR K H1 G L1 M1 ∧ RD K T H1 G L1 M1 v x ∧ PostO K T H1 G L1 M1 (k x M1) Q E) E := by
  cases r with
  | ok e M' =>
    cases e with
    | d y => exact fun v H' L' n m q => ⟨y, L', M', n, m, q, h.start n⟩
    | new o =>
      intro p ho H' L' hp n m c
      have n2 : Nxt H L M (upd H' p ho) L' M' := n.trans (Nxt.fresh hp)
      exact ⟨.p o.toP, L', M', n2, m.fresh hp, .p (c.rp m hp), h.start n2⟩
  | err y M' => exact h
  | bad => exact h
theorem PostO.bind {K : PySem.W.Frag} {H : Hp} {G : Addr → Prop} {L : List Addr} {M : Mem} {r : Res (Option Int)} {k : Option Int → Mem → Res Ev} {Q : VK} {E : XK} (h : Post K T H G L M (r.bind k) Q E) :
    PostO K T H G L M r (fun b H1 => ∃ L1 M1, Nxt H L M H1 L1 M1 ∧ MR K H1 G L1 M1 ∧ Post K T H1 G L1 M1 (k b M1) Q E) E := by
  cases r with
  | ok e M' => exact fun H' L' n m => ⟨L', M', n, m, h.start n⟩
  | err y M' => exact h
  | bad => exact h
def tO (X : Cx) (T : Tb) (W : WX) (φ : OFn) : TO := fun σ H Q => ∃ ρ G L M, SR X.K T σ H ρ G L M ∧ PostO X.K T H G L M (φ ρ M) Q fun cls d H' => W cls d σ H'
def OD (X : Cx) (T : Tb) (W : WX) (φ : OFn) (e : Option Expr) : Prop := PO X e (tO X T W φ)
theorem PO.imp {e : Option Expr} {t t' : TO} (h : PO X e t) (i : ∀ σ H Q, t' σ H Q → t σ H Q) : PO X e t' := ⟨fun pins s σ H Q I q => h.run pins s σ H Q I (i σ H Q q)⟩
theorem od_none : OD X T W oNone none := PO.imp po_none fun σ H Q h => by
  obtain ⟨ρ, G, L, M, s, h⟩ := h
  exact h H L Nxt.refl s.mr
theorem od_some (h : PD X T W φ a) : OD X T W (oSome φ) (some a) := PO.imp (po_some h) fun σ H Q h => by
  obtain ⟨ρ, G, L, M, s, h⟩ := h
  refine ⟨ρ, G, L, M, s, (Post.bindO h).mono fun v H1 ⟨x, L1, M1, n1, m1, r1, h1⟩ => ?_⟩
  unfold asI at h1
  split at h1
  · rename_i i e
    split at e
    · cases e
      exact ⟨i, r1.int, h1 H1 L1 Nxt.refl m1⟩
    · cases e
  · exact h1.elim
def eSl (φ : PFn) (lo hi : OFn) : PFn := fun ρ M => (stl (φ ρ M)).bind fun x M1 => (lo ρ M1).bind fun l M2 => (hi ρ M2).bind fun u M3 => ofO (dSl l u x M3) M3
theorem PostO.mono {K : PySem.W.Frag} {H : Hp} {G : Addr → Prop} {L : List Addr} {M : Mem} {r : Res (Option Int)} {Q Q' : Option Int → Hp → Prop} {E : XK} (h : PostO K T H G L M r Q E) (hq : ∀ v H', Q v H' → Q' v H') : PostO K T H G L M r Q' E := by
  cases r with
  | ok e M' => exact fun H' L' n m => hq _ _ (h H' L' n m)
  | err y M' => exact h
  | bad => exact h
theorem pd_slice {lo hi : Option Expr} {l u : OFn} {p2 : Pos} (ha : PD X T W φ a) (hl : OD X T W l lo) (hu : OD X T W u hi) : PD X T W (eSl φ l u) (.Subscript a (.Slice lo hi none p2) pos) :=
  PE.imp (pe_slice (sg_sl (T := T)) ha hl hu) fun σ H Q h => by
    obtain ⟨ρ, G, L, M, s, h⟩ := h
    refine ⟨ρ, G, L, M, s, (Post.bind h).mono fun v H1 ⟨x, L1, M1, n1, m1, r1, h1⟩ => ?_⟩
    refine ⟨ρ, G, L1, M1, s.ext n1 m1, (PostO.bind h1).mono fun l H2 ⟨L2, M2, n2, m2, h2⟩ => ?_⟩
    refine ⟨ρ, G, L2, M2, (s.ext n1 m1).ext n2 m2, (PostO.bind h2).mono fun u H3 ⟨L3, M3, n3, m3, h3⟩ => ?_⟩
    obtain ⟨r, e, q⟩ := ofO_post h3
    exact ⟨x, r, G, L3, M3, m3, (r1.ext n2).ext n3, e, q⟩

/-! ### calls of built-ins -/
def eCallB (g : List D → Mem → Option (Ev × Mem)) (α : AFn) : PFn := fun ρ M => (α ρ M).bind fun ds M1 => ofM (g ds M1)
theorem callB_go {g : List D → Mem → Option (Ev × Mem)} {σ : L2.St} {H : Hp} {Q : VK} (h : tE X T W (eCallB g α) σ H Q) :
    tCB (fun xs H Q => ∃ ds r M' G L M, MR X.K H G L M ∧ RDs X.K T H G L M xs ds ∧ g ds M = some (r, M') ∧ Post X.K T H G L M (.ok r M') Q never) (tA X T W α) σ H Q := by
  obtain ⟨ρ, G, L, M, s, h⟩ := h
  refine ⟨ρ, G, L, M, s, (PostA.bind h).mono fun vs H1 ⟨ds, L1, M1, n1, m1, r1, h1⟩ => ?_⟩
  obtain ⟨r, N, e, q⟩ := ofM_post h1
  exact ⟨ds, r, N, G, L1, M1, m1, r1, e, q⟩
theorem pd_callB {x : Str} {p : Pos} {id : String} {g : List D → Mem → Option (Ev × Mem)} (hc : CallG X T (.builtin id) g) (hg : Gl X x) (hm : X.mg x = none) (hv : bootBuiltins x = some (.builtin id)) (ha : AD X T W α (e :: es))
    (hs : (e :: es).any starB = false) (hn : x ≠ "__name__") (hd : (x == ("__debug__" : Str)) = false) : PD X T W (eCallB g α) (.Call (.Name x p) (e :: es) [] pos) :=
  PE.imp (pe_callB hc hg hm hv ha hn hd (star_cons (by rw [List.any_cons, Bool.or_eq_false_iff] at hs; exact hs.1)) (star_any (by rw [List.any_cons, Bool.or_eq_false_iff] at hs; exact hs.2))) fun σ H Q h => callB_go h
theorem pd_callTy {x : Str} {p : Pos} {id : String} {g : List D → Mem → Option (Ev × Mem)} (hc : CallG X T (.type id) g) (hg : Gl X x) (hm : X.mg x = none) (hv : bootBuiltins x = some (.type id)) (ha : AD X T W α (e :: es))
    (hs : (e :: es).any starB = false) (hn : x ≠ "__name__") (hd : (x == ("__debug__" : Str)) = false) : PD X T W (eCallB g α) (.Call (.Name x p) (e :: es) [] pos) :=
  PE.imp (pe_callTy hc hg hm hv ha hn hd (star_cons (by rw [List.any_cons, Bool.or_eq_false_iff] at hs; exact hs.1)) (star_any (by rw [List.any_cons, Bool.or_eq_false_iff] at hs; exact hs.2))) fun σ H Q h => callB_go h
end
end Cb

set_option Elab.async false
set_option linter.all false
set_option maxRecDepth 100000
/-! Cb, part E: methods and built-in functions. -/
namespace Cb
open PySem PySem.Spec PyProof.Rows L2

/-! ### a method of a built-in's value -/
def kindD (d : D) (M : Mem) : Option String := match pv d M with
  | some (.list _) => some "list"
  | some (.dict _) => some "dict"
  | some (.str _) => some "str"
  | _ => none
def MtG (X : Cx) (T : Tb) (id : String) (g : D → List D → Mem → Option (Ev × Mem)) : Prop :=
  MtR X id fun x xs H Q => ∃ d ds r M' G L M, MR X.K H G L M ∧ RD X.K T H G L M x d ∧ RDs X.K T H G L M xs ds ∧ g d ds M = some (r, M') ∧ Post X.K T H G L M (.ok r M') Q never
def HasM (X : Cx) (T : Tb) (ty : String) (name : Str) (g : D → List D → Mem → Option (Ev × Mem)) : Prop :=
  ∃ id, PlainAttrs ty ∧ Slot ty name id ∧ typeOf (.builtin id) = pure (.type "method_descriptor") ∧ MtG X T id g
def baseB : Expr → Bool
  | .Call (.Name _ _) [] [] _ => false
  | _ => true
theorem base_ok {o : Expr} {name : Str} {env : PySem.Env} {t : Sem Value} (h : baseB o = true) : attributeBase o name env t = t := by
  unfold attributeBase
  cases o with
  | Call f args kws pos =>
    cases f with
    | Name id p =>
      cases args with
      | nil =>
        cases kws with
        | nil => cases h
        | cons _ _ => rfl
      | cons _ _ => rfl
    | _ => rfl
  | _ => rfl
section
variable {X : Cx} {T : Tb} {W : WX} {a b e o : Expr} {es : List Expr} {φ ψ : PFn} {α : AFn} {pos apos : Pos} {name : Str}
theorem kind_ok {pins : List (Addr × Obj)} {s : Shared} {σ : L2.St} {H : Hp} {G : Addr → Prop} {L : List Addr} {M : Mem} {v : V} {u : Value} {d : D} {ty : String} (I : Inv X pins σ H s) (m : MR X.K H G L M) (r : RD X.K T H G L M v d) (ru : RelV v u) (h : kindD d M = some ty) :
    s.TypeIs u ty ∧ ∀ a, u = .ref a → ∃ ob, s.heap.get? a = some ob ∧ ob.dict = none := by
  unfold kindD at h
  split at h
  · rename_i xs e
    cases h
    obtain ⟨p, vs, rfl, h1, _⟩ := pv_list m r e
    exact tyV_is I ru (.inl ⟨rfl, _, .inl (.inl h1)⟩)
  · rename_i kvs e
    cases h
    obtain ⟨p, vs, rfl, h1, _⟩ := pv_dict m r e
    cases ru
    have z := isD_at I (.inl ⟨_, h1⟩)
    exact ⟨z.1, z.2.1⟩
  · rename_i x e
    cases h
    have z := (pv_str r e).1
    subst z
    exact tyV_is I ru rfl
  · cases h
/-- o.name(..): gm the method's meaning by the kind of o -/
def eMth (gm : String → Option (D → List D → Mem → Option (Ev × Mem))) (φ : PFn) (α : AFn) : PFn := fun ρ M => (stl (φ ρ M)).bind fun x M1 => match kindD x M1 with
  | some ty => match gm ty with
    | some g => (α ρ M1).bind fun ds M2 => ofM (g x ds M2)
    | none => .bad
  | none => .bad
theorem few_ok {es : List Expr} {env : PySem.Env} {pos : Pos} (hs : es.any starB = false) (hl : es.length < 30) :
    ((backTo pos (starEach es env)).all (fun x => !x.1) && (backToKw pos (keywordEach [] env)).all (fun x => x.1.isSome) && decide (es.length + ([] : List Keyword).length + (if ([] : List Keyword).isEmpty then 0 else 1) < 30)) = true := by
  have h1 : (backTo pos (starEach es env)).all (fun x => !x.1) = true := by
    have := star_any (env := env) (pos := pos) hs
    rw [List.any_eq_false] at this
    rw [List.all_eq_true]
    intro x hx
    have := this x hx
    simpa using this
  rw [h1]
  simp [keywordEach, backToKw, hl]
theorem pd_mth {gm : String → Option (D → List D → Mem → Option (Ev × Mem))} (hm : ∀ ty g, gm ty = some g → HasM X T ty name g) (ho : PD X T W φ o) (ha : AD X T W α (e :: es)) (hb : baseB o = true) (hs : (e :: es).any starB = false) (hl : (e :: es).length < 30) (hline : (apos.endLine == pos.line) = true) :
    PD X T W (eMth gm φ α) (.Call (.Attribute o name apos) (e :: es) [] pos) := by
  refine ⟨fun pins s σ H Q I h => ?_⟩
  obtain ⟨ρ, G, L, M, sr, h⟩ := h
  refine wpAny_Call_method_late (base_ok hb) (few_ok hs hl) hline rfl (thn (ho.run pins s σ H _ I ⟨ρ, G, L, M, sr, Post.bind h⟩) fun v s1 ⟨x, H1, I1, rx, d, L1, M1, n1, m1, r1, h1⟩ => ?_)
  split at h1
  · rename_i ty hk
    split at h1
    · rename_i g hg
      obtain ⟨id, pa, slot, hty, mt⟩ := hm ty g hg
      obtain ⟨t1, t2⟩ := kind_ok I1 m1 r1 rx hk
      refine ⟨ty, id, pa, slot, hty, t1, t2, ?_⟩
      have hA := ha.run pos pins s1 σ H1 _ I1 ⟨ρ, G, L1, M1, sr.ext n1 m1, PostA.bind h1⟩
      have fin : wpAny (model X.prog X.w) X.A (spliced (backTo pos (starEach (e :: es) X.env))) (fun us s2 => wpAny (model X.prog X.w) X.A (call (.builtin id) (v :: us)) (EP X pins σ Q) X.xe s2) X.xe s1 := by
        refine thn hA fun us s2 ⟨vs, H2, I2, r2, ds, L2, M2, n2, m2, rds, h2⟩ => ?_
        obtain ⟨r, N, eg, q⟩ := ofM_post h2
        exact mt pins s2 σ H2 x vs v us Q I2 rx r2 ⟨d, ds, r, N, G, L2, M2, m2, r1.ext n2, rds, eg, q⟩
      rw [List.any_cons, Bool.or_eq_false_iff] at hs
      rw [star_cons hs.1] at fin ⊢
      exact Calls.callWith_builtin (show (false || (backTo pos (starEach es X.env)).any (·.1)) = false by rw [star_any hs.2]; rfl) (Calls.evalArgs_plain fin)
    · exact h1.elim
  · exact h1.elim
theorem pd_mth0 {gm : String → Option (D → List D → Mem → Option (Ev × Mem))} (hm : ∀ ty g, gm ty = some g → HasM X T ty name g) (ho : PD X T W φ o) (hb : baseB o = true) (hline : (apos.endLine == pos.line) = true) :
    PD X T W (eMth gm φ aNil) (.Call (.Attribute o name apos) [] [] pos) := by
  refine ⟨fun pins s σ H Q I h => ?_⟩
  obtain ⟨ρ, G, L, M, sr, h⟩ := h
  refine wpAny_Call_method0_late (base_ok hb) hline (thn (ho.run pins s σ H _ I ⟨ρ, G, L, M, sr, Post.bind h⟩) fun v s1 ⟨x, H1, I1, rx, d, L1, M1, n1, m1, r1, h1⟩ => ?_)
  split at h1
  · rename_i ty hk
    split at h1
    · rename_i g hg
      obtain ⟨id, pa, slot, hty, mt⟩ := hm ty g hg
      obtain ⟨t1, t2⟩ := kind_ok I1 m1 r1 rx hk
      obtain ⟨r, N, eg, q⟩ := ofM_post h1
      exact ⟨ty, id, pa, slot, hty, t1, t2, Calls.callWith_builtin rfl (PySem.evalArgs_none (mt pins s1 σ H1 x [] v [] Q I1 rx .nil ⟨d, [], r, N, G, L1, M1, m1, r1, .nil, eg, q⟩))⟩
    · exact h1.elim
  · exact h1.elim

/-! ### the methods -/
theorem lst_at {K : PySem.W.Frag} {H : Hp} {G : Addr → Prop} {L : List Addr} {M : Mem} {v : V} {n : Nat} {xs : List P} (m : MR K H G L M) (r : RD K T H G L M v (.obj n)) (h : M[n]? = some (.lst xs)) : ∃ a vs, v = .ref a ∧ L[n]? = some a ∧ Lv L M a ∧ H a = some (.lst vs) ∧ RpAll K H (Fbd L M G) vs xs := by
  cases r with
  | @obj n a e =>
    obtain ⟨ho, e3, c⟩ := m.at_ n a _ e h rfl
    cases c with
    | lst r => exact ⟨a, _, rfl, e, ⟨n, _, e, h, rfl⟩, e3, r⟩
theorem dct_at {K : PySem.W.Frag} {H : Hp} {G : Addr → Prop} {L : List Addr} {M : Mem} {v : V} {n : Nat} {xs : List (P × P)} (m : MR K H G L M) (r : RD K T H G L M v (.obj n)) (h : M[n]? = some (.dct xs)) : ∃ a vs, v = .ref a ∧ L[n]? = some a ∧ Lv L M a ∧ H a = some (.dK vs) ∧ RpKV K H (Fbd L M G) vs xs := by
  cases r with
  | @obj n a e =>
    obtain ⟨ho, e3, c⟩ := m.at_ n a _ e h rfl
    cases c with
    | dct r => exact ⟨a, _, rfl, e, ⟨n, _, e, h, rfl⟩, e3, r⟩
/-- the object n holds o from now on -/
theorem wrote {K : PySem.W.Frag} {H : Hp} {G : Addr → Prop} {L : List Addr} {M : Mem} {a : Addr} {n : Nat} {o : MObj} {ho : HO} {d : D} {w : V} {Q : VK} (m : MR K H G L M) (h1 : L[n]? = some a) (hlv : Lv L M a) (c : MC K H (Fbd L M G) ho o)
    (q : Post K T H G L M (.ok (.d d) (M.set n o)) Q never) (rw' : RD K T (upd H a ho) G L (M.set n o) w d) : Q w (upd H a ho) :=
  q w _ L (Nxt.write h1 hlv) (m.write h1 hlv c) rw'
def mAppend : D → List D → Mem → Option (Ev × Mem) := fun d ds M => match d, ds with
  | .obj n, [x] => match pur x M with
    | some (y, M1) => match M1[n]? with
      | some (.lst xs) => if xs.length < sizeLine then some (.d (.p .none), M1.set n (.lst (xs ++ [y]))) else none
      | _ => none
    | none => none
  | _, _ => none
theorem mg_append : MtG X T "list.append" mAppend := by
  intro pins s σ H x xs v us Q I rx rs h
  obtain ⟨d, ds, r, M', G, L, M, m, rd, rds, e, q⟩ := h
  unfold mAppend at e
  split at e
  · rename_i n z
    split at e
    · rename_i y M1 e1
      split at e
      · rename_i ys e2
        split at e
        · rename_i hz
          cases e
          cases rds with
          | @cons v1 _ _ _ r1 r2 =>
          cases r2
          obtain ⟨n1, m1, q1⟩ := pur_ok m r1 e1
          obtain ⟨a, vs, rfl, h1, h2, h3, h4⟩ := lst_at m1 (rd.ext n1) e2
          refine mt_append pins s σ H _ _ v us Q I rx rs ⟨a, vs, v1, rfl, rfl, h3, by rw [h4.length]; exact hz, ?_⟩
          exact wrote m1 h1 h2 (.lst (h4.append (.cons q1 .nil))) (q.start n1) (.p .non)
        · cases e
      · cases e
    · cases e
  · cases e
/-- the items of a list or a tuple -/
def seqP (d : D) (M : Mem) : Option (List P) := match pv d M with
  | some (.list xs) => some xs
  | some (.tuple xs) => some xs
  | _ => none
theorem seqP_ok {K : PySem.W.Frag} {H : Hp} {G : Addr → Prop} {L : List Addr} {M : Mem} {v : V} {d : D} {xs : List P} (m : MR K H G L M) (r : RD K T H G L M v d) (h : seqP d M = some xs) : ∃ a vs, v = .ref a ∧ (SqL K H a vs ∨ SqT K H a vs) ∧ RpAll K H (Fbd L M G) vs xs := by
  unfold seqP at h
  split at h
  · rename_i ys e
    cases h
    obtain ⟨a, vs, e1, h1, h2⟩ := pv_list m r e
    exact ⟨a, vs, e1, .inl (.inl (.inl h1)), h2⟩
  · rename_i ys e
    cases h
    obtain ⟨a, vs, e1, h1, h2, _⟩ := pv_tuple r e
    exact ⟨a, vs, e1, .inr h1, h2⟩
  · cases h
def listP (d : D) (M : Mem) : Option (List P) := match pv d M with
  | some (.list xs) => some xs
  | _ => none
def mExtend : D → List D → Mem → Option (Ev × Mem) := fun d ds M => match d, ds with
  | .obj n, [x] => match listP x M with
    | some ys => match M[n]? with
      | some (.lst xs) => if xs.length + ys.length ≤ sizeLine then some (.d (.p .none), M.set n (.lst (xs ++ ys))) else none
      | _ => none
    | none => none
  | _, _ => none
theorem mg_extend : MtG X T "list.extend" mExtend := by
  intro pins s σ H x xs v us Q I rx rs h
  obtain ⟨d, ds, r, M', G, L, M, m, rd, rds, e, q⟩ := h
  unfold mExtend at e
  split at e
  · rename_i n z
    split at e
    · rename_i ys e1
      split at e
      · rename_i xs0 e2
        split at e
        · rename_i hz
          cases e
          cases rds with
          | @cons v1 _ _ _ r1 r2 =>
          cases r2
          obtain ⟨a, vs, rfl, h1, h2, h3, h4⟩ := lst_at m rd e2
          unfold listP at e1
          split at e1
          · rename_i ys' e3
            cases e1
            obtain ⟨b, us', rfl, h5, h6⟩ := pv_list m r1 e3
            refine mt_extend pins s σ H _ _ v us Q I rx rs ⟨a, b, vs, us', rfl, rfl, h3, h5, by rw [h4.length, h6.length]; exact hz, ?_⟩
            exact wrote m h1 h2 (.lst (h4.append h6)) q (.p .non)
          · cases e1
        · cases e
      · cases e
    · cases e
  · cases e
def mPop : D → List D → Mem → Option (Ev × Mem) := fun d ds M => match d with
  | .obj n => match M[n]? with
    | some (.lst xs) => match ds with
      | [] => match xs[xs.length - 1]? with
        | some y => some (.d (.p y), M.set n (.lst xs.dropLast))
        | none => none
      | [.p (.int i)] => if 0 ≤ i ∧ i < 2 ^ 63 then (match xs[i.toNat]? with
        | some y => some (.d (.p y), M.set n (.lst (xs.eraseIdx i.toNat)))
        | none => none) else none
      | _ => none
    | _ => none
  | _ => none
theorem RpAll.dropLast {K : PySem.W.Frag} {H : Hp} {Fb : Addr → Prop} {vs : List V} {ds : List P} (r : RpAll K H Fb vs ds) : RpAll K H Fb vs.dropLast ds.dropLast := by
  rw [List.dropLast_eq_take, List.dropLast_eq_take, r.length]; exact r.take _
theorem mg_pop : MtG X T "list.pop" mPop := by
  intro pins s σ H x xs v us Q I rx rs h
  obtain ⟨d, ds, r, M', G, L, M, m, rd, rds, e, q⟩ := h
  unfold mPop at e
  split at e
  · rename_i n
    split at e
    · rename_i ys e2
      obtain ⟨a, vs, rfl, h1, h2, h3, h4⟩ := lst_at m rd e2
      split at e
      · split at e
        · rename_i y e3
          cases e
          cases rds
          obtain ⟨w, hw, rw'⟩ := h4.get e3
          rw [← h4.length] at hw
          refine mt_pop pins s σ H _ _ v us Q I rx rs ⟨a, vs, w, rfl, rfl, h3, hw, ?_⟩
          exact wrote m h1 h2 (.lst h4.dropLast) q (.p (rw'.ext (Nxt.write h1 h2).keeps))
        · cases e
      · rename_i i
        split at e
        · rename_i hi
          split at e
          · rename_i y e3
            cases e
            cases rds with
            | cons r1 r2 =>
            cases r2
            obtain ⟨w, hw, rw'⟩ := h4.get e3
            have hlt := (List.getElem?_eq_some_iff.mp hw).1
            refine mt_popAt pins s σ H _ _ v us Q I rx rs ⟨a, vs, i, i.toNat, w, rfl, by rw [r1.int], h3, by omega, hi.2, seqIndex_of hi.1 (by omega), hw, ?_⟩
            exact wrote m h1 h2 (.lst (h4.eraseIdx _)) q (.p (rw'.ext (Nxt.write h1 h2).keeps))
          · cases e
        · cases e
      · cases e
    · cases e
  · cases e
def mInsert : D → List D → Mem → Option (Ev × Mem) := fun d ds M => match d, ds with
  | .obj n, [.p (.int i), x] => match pur x M with
    | some (y, M1) => match M1[n]? with
      | some (.lst xs) => if xs.length < sizeLine ∧ 0 ≤ i ∧ i < 2 ^ 63 then some (.d (.p .none), M1.set n (.lst (xs.take i.toNat ++ [y] ++ xs.drop i.toNat))) else none
      | _ => none
    | none => none
  | _, _ => none
theorem mg_insert : MtG X T "list.insert" mInsert := by
  intro pins s σ H x xs v us Q I rx rs h
  obtain ⟨d, ds, r, M', G, L, M, m, rd, rds, e, q⟩ := h
  unfold mInsert at e
  split at e
  · rename_i n i z
    split at e
    · rename_i y M1 e1
      split at e
      · rename_i ys e2
        split at e
        · rename_i hz
          cases e
          cases rds with
          | cons r0 r1 =>
          cases r1 with
          | @cons v1 _ _ _ r1 r2 =>
          cases r2
          obtain ⟨n1, m1, q1⟩ := pur_ok m r1 e1
          obtain ⟨a, vs, rfl, h1, h2, h3, h4⟩ := lst_at m1 (rd.ext n1) e2
          refine mt_insert pins s σ H _ _ v us Q I rx rs ⟨a, vs, i, v1, rfl, by rw [r0.int], h3, by rw [h4.length]; exact hz.1, hz.2.1, hz.2.2, ?_⟩
          exact wrote m1 h1 h2 (.lst (((h4.take _).append (.cons q1 .nil)).append (h4.drop _))) (q.start n1) (.p .non)
        · cases e
      · cases e
    · cases e
  · cases e
/-- d.get(k), d.get(k, x) -/
def mGet : D → List D → Mem → Option (Ev × Mem) := fun d ds M => match pv d M with
  | some (.dict kvs) => match ds with
    | [.p k] => match keyOf k with
      | some _ => some (.d (.p ((dgetP kvs k).getD .none)), M)
      | none => none
    | [.p k, .p x] => match keyOf k with
      | some _ => some (.d (.p ((dgetP kvs k).getD x)), M)
      | none => none
    | _ => none
  | _ => none
theorem RpKV.get_none {K : PySem.W.Frag} {H : Hp} {Fb : Addr → Prop} : ∀ {kvs : List (Key × V)} {ds : List (P × P)} {q : Key}, RpKV K H Fb kvs ds → dgetP ds (keyP q) = none → valV kvs q = none
  | _, _, _, .nil, _ => rfl
  | _, _, q, .cons (k := k) (v := v) (vs := vs) (d := d') (ds := ds) r t, h => by
    unfold dgetP at h
    rw [List.find?_cons, keqP_P] at h
    by_cases e : k = q
    · rw [decide_eq_true e] at h; simp at h
    · rw [decide_eq_false e] at h
      rw [valV_neg e]; exact t.get_none h
theorem mg_get (hu : X.A.units + 1 < cLine) : MtG X T "dict.get" mGet := by
  intro pins s σ H x xs v us Q I rx rs h
  obtain ⟨d, ds, r, M', G, L, M, m, rd, rds, e, q⟩ := h
  unfold mGet at e
  split at e
  · rename_i kvs e1
    obtain ⟨a, vs, rfl, h1, h2⟩ := pv_dict m rd e1
    cases rx
    split at e
    · rename_i k
      split at e
      · rename_i qk hk
        cases e
        cases rds with
        | @cons v1 _ _ _ r1 r2 =>
        cases r2
        have ek := keyOf_P hk
        have ev : v1 = kV qk := by cases r1 with | p r1 => exact kV_of r1 hk
        subst ev
        cases rs with
        | cons s1 s2 =>
        cases s2
        refine d_get1 hu I (.inl ⟨vs, qk, h1, rfl, rfl⟩) s1 fun w' s' I' rw' => ⟨_, H, I', rw', ?_⟩
        cases eo : dgetP kvs k with
        | none =>
          rw [eo] at q; rw [ek] at eo
          rw [h2.get_none eo]
          exact q _ H L Nxt.refl m (.p .non)
        | some z =>
          rw [eo] at q; rw [ek] at eo
          obtain ⟨w, hw, rw2⟩ := h2.get eo
          rw [hw]
          exact q _ H L Nxt.refl m (.p rw2)
      · cases e
    · rename_i k z0
      split at e
      · rename_i qk hk
        cases e
        cases rds with
        | @cons v1 _ _ _ r1 r2 =>
        cases r2 with
        | @cons v2 _ _ _ r2 r3 =>
        cases r3
        have ek := keyOf_P hk
        have ev : v1 = kV qk := by cases r1 with | p r1 => exact kV_of r1 hk
        subst ev
        cases rs with
        | cons s1 s2 =>
        cases s2 with
        | cons s2 s3 =>
        cases s3
        refine d_get2 hu I (.inl ⟨vs, qk, h1, rfl, rfl⟩) s1 s2 fun w' s' I' rw' => ⟨_, H, I', rw', ?_⟩
        cases eo : dgetP kvs k with
        | none =>
          rw [eo] at q; rw [ek] at eo
          rw [h2.get_none eo]
          exact q _ H L Nxt.refl m r2
        | some z =>
          rw [eo] at q; rw [ek] at eo
          obtain ⟨w, hw, rw2⟩ := h2.get eo
          rw [hw]
          exact q _ H L Nxt.refl m (.p rw2)
      · cases e
    · cases e
  · cases e
end
end Cb

set_option Elab.async false
set_option linter.all false
set_option maxRecDepth 100000
/-! Cb, part F: built-in functions by values. -/
namespace Cb
open PySem PySem.Spec PyProof.Rows L2

def ret1 (g : P → Option P) : List D → Mem → Option (Ev × Mem) := fun ds M => match ds with
  | [d] => match pv d M with
    | some x => (g x).map fun z => (.d (.p z), M)
    | none => none
  | _ => none
/-- the length -/
def lenP : P → Option Int
  | .list xs => some xs.length
  | .tuple xs => some xs.length
  | .str x => some x.length
  | _ => none
def bLen : List D → Mem → Option (Ev × Mem) := fun ds M => match ds with
  | [d] => match pv d M with
    | some (.list xs) => some (.d (.p (.int xs.length)), M)
    | some (.tuple xs) => some (.d (.p (.int xs.length)), M)
    | some (.str x) => some (.d (.p (.int x.length)), M)
    | some (.dict kvs) => some (.d (.p (.int kvs.length)), M)
    | _ => none
  | _ => none
def bList : List D → Mem → Option (Ev × Mem) := fun ds M => match ds with
  | [.frz xs] => some (.new (.lst xs), M)
  | [d] => match seqP d M with
    | some xs => some (.new (.lst xs), M)
    | none => none
  | _ => none
def bTuple : List D → Mem → Option (Ev × Mem) := fun ds M => match ds with
  | [d] => match seqP d M with
    | some xs => some (.d (.p (.tuple xs)), M)
    | none => none
  | _ => none
def bMax : List D → Mem → Option (Ev × Mem) := fun ds M => match ds with
  | [.p (.int i), .p (.int j)] => some (.d (.p (.int (if j > i then j else i))), M)
  | _ => none
def bMin : List D → Mem → Option (Ev × Mem) := fun ds M => match ds with
  | [.p (.int i), .p (.int j)] => some (.d (.p (.int (if j < i then j else i))), M)
  | _ => none
def boolsP : List P → Option (List Bool)
  | [] => some []
  | .bool b :: r => (boolsP r).map (b :: ·)
  | _ :: _ => none
def bAll : List D → Mem → Option (Ev × Mem) := fun ds M => match ds with
  | [d] => match listP d M with
    | some xs => (boolsP xs).map fun bs => (.d (.p (.bool (bs.all id))), M)
    | none => none
  | _ => none
def bAny : List D → Mem → Option (Ev × Mem) := fun ds M => match ds with
  | [d] => match listP d M with
    | some xs => (boolsP xs).map fun bs => (.d (.p (.bool (bs.any id))), M)
    | none => none
  | _ => none
def tup1 : P → Bool
  | .tuple (_ :: _) => true
  | _ => false
def flat1 : P → Bool
  | .tuple _ => false
  | .none => false
  | _ => true
/-- what may be sorted -/
def sortOk (xs : List P) : Bool := xs.all okP && (xs.all fun x => xs.all fun y => PySem.W.alike x y) && (xs.all tup1 || xs.all flat1)
def sortP (xs : List P) : List P := xs.mergeSort (PySem.W.dataLe false id)
def bSorted : List D → Mem → Option (Ev × Mem) := fun ds M => match ds with
  | [d] => match listP d M with
    | some xs => if sortOk xs = true then some (.new (.lst (sortP xs)), M) else none
    | none => none
  | _ => none
def reprOk (d : P) : Bool := okP d && d.showable && decide (d.shown.length ≤ sizeLine)
def bRepr : List D → Mem → Option (Ev × Mem) := fun ds M => match ds with
  | [d] => match pv d M with
    | some x => if reprOk x = true then some (.d (.p (.str x.shown)), M) else none
    | none => none
  | _ => none

section
variable {X : Cx} {T : Tb} {W : WX}
theorem line_lt : (sizeLine : Nat) < 2 ^ 63 := by rw [sizeLine_eq]; decide
theorem cg_len : CallG X T (.builtin "len") bLen := by
  intro pins s σ H xs us Q I r h
  obtain ⟨ds, ev, M', G, L, M, m, rds, e, q⟩ := h
  unfold bLen at e
  split at e
  · rename_i d
    cases rds with
    | @cons v _ _ _ r1 r2 =>
    cases r2
    split at e
    · rename_i xs e1
      cases e
      obtain ⟨p, vs, rfl, h1, h2⟩ := pv_list m r1 e1
      exact call_len pins s σ H _ us Q I r ⟨.ref p, xs.length, rfl, .inl ⟨vs, .inl (.inl h1), h2.length.symm⟩, q _ H L Nxt.refl m (.p (.int _))⟩
    · rename_i xs e1
      cases e
      obtain ⟨p, vs, rfl, h1, h2, _⟩ := pv_tuple r1 e1
      exact call_len pins s σ H _ us Q I r ⟨.ref p, xs.length, rfl, .inr ⟨vs, h1, h2.length.symm⟩, q _ H L Nxt.refl m (.p (.int _))⟩
    · rename_i x e1
      cases e
      obtain ⟨rfl, hz⟩ := pv_str r1 e1
      exact call_len pins s σ H _ us Q I r ⟨.str x, x.length, rfl, ⟨hz, rfl⟩, q _ H L Nxt.refl m (.p (.int _))⟩
    · rename_i kvs e1
      cases e
      obtain ⟨p, vs, rfl, h1, h2⟩ := pv_dict m r1 e1
      obtain ⟨u, rfl, ru⟩ := vals1 r
      cases ru
      refine d_len I h1 fun t s' I' => ⟨.int vs.length, H, I', ⟨t, rfl⟩, ?_⟩
      rw [h2.length]
      exact q _ H L Nxt.refl m (.p (.int _))
    · cases e
  · cases e
theorem cg_list : CallG X T (.type "list") bList := by
  intro pins s σ H xs us Q I r h
  obtain ⟨ds, ev, M', G, L, M, m, rds, e, q⟩ := h
  unfold bList at e
  split at e
  · cases e
    cases rds with
    | cons r1 r2 =>
    cases r2
    cases r1 with
    | @frz p vs xs h1 h2 =>
    exact call_list_of pins s σ H _ us Q I r ⟨p, vs, rfl, .inl h1.sq, fun l hl => q l _ H L hl Nxt.refl m (.lst h2)⟩
  · rename_i d _
    cases rds with
    | cons r1 r2 =>
    cases r2
    split at e
    · rename_i xs e1
      cases e
      obtain ⟨p, vs, rfl, h1, h2⟩ := seqP_ok m r1 e1
      exact call_list_of pins s σ H _ us Q I r ⟨p, vs, rfl, h1, fun l hl => q l _ H L hl Nxt.refl m (.lst h2)⟩
    · cases e
  · cases e
theorem cg_tuple : CallG X T (.type "tuple") bTuple := by
  intro pins s σ H xs us Q I r h
  obtain ⟨ds, ev, M', G, L, M, m, rds, e, q⟩ := h
  unfold bTuple at e
  split at e
  · rename_i d
    cases rds with
    | cons r1 r2 =>
    cases r2
    split at e
    · rename_i xs e1
      cases e
      unfold seqP at e1
      split at e1
      · rename_i ys e2
        cases e1
        obtain ⟨p, vs, rfl, h1, h2⟩ := pv_list m r1 e2
        exact call_tuple_of pins s σ H _ us Q I r ⟨p, vs, rfl, .inl ⟨.inl (.inl h1), fun l hl => q _ _ L (Nxt.fresh hl) (m.fresh hl) (.p (.tup (.inl upd_same) (m.free hl) (RpAll.ext (Nxt.fresh hl).keeps _ _ h2)))⟩⟩
      · rename_i ys e2
        cases e1
        obtain ⟨p, vs, rfl, h1, h2, h3⟩ := pv_tuple r1 e2
        exact call_tuple_of pins s σ H _ us Q I r ⟨p, vs, rfl, .inr ⟨h1, q _ H L Nxt.refl m (.p h3)⟩⟩
      · cases e1
    · cases e
  · cases e
theorem cg_max (c : XOk X) : CallG X T (.builtin "max") bMax := by
  intro pins s σ H xs us Q I r h
  obtain ⟨ds, ev, M', G, L, M, m, rds, e, q⟩ := h
  unfold bMax at e
  split at e
  · cases e
    cases rds with
    | cons r1 r2 =>
    cases r2 with
    | cons r2 r3 =>
    cases r3
    exact call_max2 c.calm pins s σ H _ us Q I r ⟨_, _, by rw [r1.int, r2.int], q _ H L Nxt.refl m (.p (.int _))⟩
  · cases e
theorem cg_min (c : XOk X) : CallG X T (.builtin "min") bMin := by
  intro pins s σ H xs us Q I r h
  obtain ⟨ds, ev, M', G, L, M, m, rds, e, q⟩ := h
  unfold bMin at e
  split at e
  · cases e
    cases rds with
    | cons r1 r2 =>
    cases r2 with
    | cons r2 r3 =>
    cases r3
    exact call_min2 c.calm pins s σ H _ us Q I r ⟨_, _, by rw [r1.int, r2.int], q _ H L Nxt.refl m (.p (.int _))⟩
  · cases e
theorem bools_ok {K : PySem.W.Frag} {H : Hp} {Fb : Addr → Prop} : ∀ {vs : List V} {xs : List P} {bs : List Bool}, RpAll K H Fb vs xs → boolsP xs = some bs → vs = bs.map V.bl
  | _, _, _, .nil, h => by cases h; rfl
  | _, _, bs, .cons (v := v) (d := d) (ds := ds) r t, h => by
    cases r with
    | bl b =>
      unfold boolsP at h
      cases e : boolsP ds with
      | none => rw [e] at h; cases h
      | some bs' => rw [e] at h; cases h; rw [bools_ok t e]; rfl
    | non => cases h
    | int _ => cases h
    | str _ _ => cases h
    | lst _ _ _ => cases h
    | tup _ _ _ => cases h
    | tupK _ _ _ _ _ _ => cases h
    | dct _ _ _ => cases h
theorem cg_all (c : XOk X) : CallG X T (.builtin "all") bAll := by
  intro pins s σ H xs us Q I r h
  obtain ⟨ds, ev, M', G, L, M, m, rds, e, q⟩ := h
  unfold bAll at e
  split at e
  · cases rds with
    | cons r1 r2 =>
    cases r2
    split at e
    · rename_i xs e1
      cases eb : boolsP xs with
      | none => rw [eb] at e; cases e
      | some bs =>
        rw [eb] at e; cases e
        unfold listP at e1
        split at e1
        · rename_i ys e2
          cases e1
          obtain ⟨p, vs, rfl, h1, h2⟩ := pv_list m r1 e2
          exact cr_all c.calm pins s σ H _ us Q I r ⟨p, bs, rfl, by rw [← bools_ok h2 eb]; exact .inl (.inl h1), q _ H L Nxt.refl m (.p (.bl _))⟩
        · cases e1
    · cases e
  · cases e
theorem cg_any (c : XOk X) : CallG X T (.builtin "any") bAny := by
  intro pins s σ H xs us Q I r h
  obtain ⟨ds, ev, M', G, L, M, m, rds, e, q⟩ := h
  unfold bAny at e
  split at e
  · cases rds with
    | cons r1 r2 =>
    cases r2
    split at e
    · rename_i xs e1
      cases eb : boolsP xs with
      | none => rw [eb] at e; cases e
      | some bs =>
        rw [eb] at e; cases e
        unfold listP at e1
        split at e1
        · rename_i ys e2
          cases e1
          obtain ⟨p, vs, rfl, h1, h2⟩ := pv_list m r1 e2
          exact cr_any c.calm pins s σ H _ us Q I r ⟨p, bs, rfl, by rw [← bools_ok h2 eb]; exact .inl (.inl h1), q _ H L Nxt.refl m (.p (.bl _))⟩
        · cases e1
    · cases e
  · cases e
/-! sorted -/
open PySem.W (EachIs AllAlike Sortable)
theorem each_of {K : PySem.W.Frag} {H : Hp} {Fb : Addr → Prop} : ∀ {xs : List V} {us : List Value} {ds : List P}, Vals xs us → RpAll K H Fb xs ds → EachIs (fun u d => ∃ x, RelV x u ∧ Rp K H Fb x d) us ds
  | _, _, _, .nil, .nil => .nil
  | _, _, _, .cons r rs, .cons h t => .cons ⟨_, r, h⟩ (each_of rs t)
theorem each_back {K : PySem.W.Frag} {H : Hp} {Fb : Addr → Prop} : ∀ {us : List Value} {ds : List P}, EachIs (fun u d => ∃ x, RelV x u ∧ Rp K H Fb x d) us ds → ∃ xs, Vals xs us ∧ RpAll K H Fb xs ds
  | _, _, .nil => ⟨[], .nil, .nil⟩
  | _, _, .cons ⟨x, r, h⟩ t => by
    obtain ⟨xs, r2, h2⟩ := each_back t
    exact ⟨x :: xs, .cons r r2, .cons h h2⟩
theorem each_mono_mem {α β : Type} {R R' : α → β → Prop} : ∀ {as : List α} {bs : List β}, EachIs R as bs → (∀ a b, b ∈ bs → R a b → R' a b) → EachIs R' as bs
  | _, _, .nil, _ => .nil
  | _, _, .cons h t, f => .cons (f _ _ (List.mem_cons_self ..) h) (each_mono_mem t fun a b hb => f a b (List.mem_cons_of_mem _ hb))
theorem cg_sorted (c : XOk X) : CallG X T (.builtin "sorted") bSorted := by
  intro pins s σ H xs us Q I r h
  obtain ⟨ds, ev, M', G, L, M, m, rds, e, q⟩ := h
  unfold bSorted at e
  split at e
  · cases rds with
    | cons r1 r2 =>
    cases r2
    split at e
    · rename_i xs e1
      split at e
      · rename_i hok
        cases e
        unfold listP at e1
        split at e1
        · rename_i ys e2
          cases e1
          obtain ⟨p, vs, rfl, h1, h2⟩ := pv_list m r1 e2
          obtain ⟨u, rfl, ru⟩ := vals1 r
          cases ru
          obtain ⟨its, rv, pl, hz⟩ := I.list (.inl (.inl h1))
          unfold sortOk at hok
          simp only [Bool.and_eq_true, Bool.or_eq_true, List.all_eq_true] at hok
          obtain ⟨⟨k1, k2⟩, k3⟩ := hok
          have hz2 : xs.length ≤ sizeLine := by rw [← h2.length]; exact hz
          have ea := each_of rv h2
          have er : EachIs (fun u d => ∃ as, Reads s.heap u (id d) as) its xs := each_mono_mem ea fun a b hb ⟨x, rx, rp⟩ => Dp.reads I _ _ _ (Rp.dp _ _ (okP_plain (k1 b hb)) rp) rx
          have hal : AllAlike (xs.map id) := by rw [List.map_id]; exact fun d hd d' hd' => k2 d hd d' hd'
          have hso : Sortable (xs.map id) := by
            rw [List.map_id]
            rcases k3 with k3 | k3
            · refine .inl fun d hd => ?_
              have := k3 d hd
              cases d with
              | tuple ys => cases ys with
                | nil => cases this
                | cons y r => exact ⟨y, r, rfl⟩
              | _ => cases this
            · refine .inr fun d hd => ?_
              have := k3 d hd
              exact ⟨fun z => (by rw [z] at this; cases this), fun ys z => (by rw [z] at this; cases this)⟩
          refine PySem.W.sorted_data (enc := id) pl.isList ea er hal hso hz2 (fun b hb => ?_) fun out hl eo => ?_
          · have := okP_depth (k1 b hb)
            have := c.hu
            show X.A.units + 2 + b.depth < cLine
            omega
          · obtain ⟨zs, r3, h3⟩ := each_back eo
            obtain ⟨ep, he⟩ := PyProof.Rows.sortedAll_at s.heap its (List.toArray out)
            have hfr : H (s.heap.objs.size + 1) = none := I.hok.fresh (Nat.le_succ _)
            have hzl : zs.length ≤ sizeLine := by rw [r3.length, hl]; exact hz2
            exact ⟨.ref _, upd H (s.heap.objs.size + 1) (.lst zs), I.laid (t' := s.toks) (fun _ _ => PyProof.Rows.sortedAll_old) (Nat.le_succ _) ⟨hzl, out, ep, r3, he⟩, rfl, q _ _ H L hfr Nxt.refl m (.lst h3)⟩
        · cases e1
      · cases e
    · cases e
  · cases e
mutual
theorem noDict : ∀ d : P, d.plain = true → d.hasDict = false
  | .none, _ => by simp [PyData.hasDict]
  | .bool _, _ => by simp [PyData.hasDict]
  | .int _, _ => by simp [PyData.hasDict]
  | .str _, _ => by simp [PyData.hasDict]
  | .list xs, h => by simp only [PyData.hasDict]; exact noDictAll xs (by simpa [PyData.plain] using h)
  | .tuple xs, h => by simp only [PyData.hasDict]; exact noDictAll xs (by simpa [PyData.plain] using h)
  | .dict _, h => by simp [PyData.plain] at h
theorem noDictAll : ∀ xs : List P, PyData.plainAll xs = true → PyData.hasDictAll xs = false
  | [], _ => by simp [PyData.hasDictAll]
  | x :: xs, h => by
    rw [PyData.plainAll, Bool.and_eq_true] at h
    simp only [PyData.hasDictAll, noDict x h.1, noDictAll xs h.2, Bool.or_self]
end
theorem cg_repr (c : XOk X) : CallG X T (.builtin "repr") bRepr := by
  intro pins s σ H xs us Q I r h
  obtain ⟨ds, ev, M', G, L, M, m, rds, e, q⟩ := h
  unfold bRepr at e
  split at e
  · cases rds with
    | @cons v _ _ _ r1 r2 =>
    cases r2
    split at e
    · rename_i x e1
      split at e
      · rename_i hok
        cases e
        unfold reprOk at hok
        simp only [Bool.and_eq_true, decide_eq_true_eq] at hok
        obtain ⟨⟨k1, k2⟩, k3⟩ := hok
        obtain ⟨u, rfl, ru⟩ := vals1 r
        have dp := pv_dp m r1 e1 (okP_plain k1)
        obtain ⟨as, rd⟩ := Dp.reads I _ _ _ dp ru
        have fin : ∀ (h' : Heap) (t : Tok) (tk : Nat), (∀ b o, s.heap.get? b = some o → h'.get? b = some o) → EP X pins σ Q (.str x.shown t) { s with heap := h', toks := tk } := fun h' t tk hk =>
          ⟨.str x.shown, H, I.kept hk, ⟨t, rfl⟩, q _ H L Nxt.refl m (.p (.str _ k3))⟩
        have hun := c.hu
        have hdp := okP_depth k1
        have big : ∀ a, u = .ref a → wpAny (model X.prog X.w) X.A (call (.builtin "repr") [u]) (EP X pins σ Q) X.xe s := fun a ea => by
          subst ea
          exact repr_of_reads' (h₀ := s.heap) rd k2 (fun hd => by rw [noDict _ (okP_plain k1)] at hd; cases hd) c.hg (by omega) (fun _ _ h => h) (fun h' t tk hk => fin h' t tk hk) k3
        cases rd with
        | none => exact P.repr_of_none (by have := fin s.heap s.toks (s.toks + 1) (fun _ _ h => h); exact this)
        | bool b => exact P.repr_of_bool (by have := fin s.heap s.toks (s.toks + 1) (fun _ _ h => h); cases b <;> exact this)
        | int i t => exact P.repr_of_int (by simpa [PyData.showable] using k2) (fin s.heap s.toks (s.toks + 1) (fun _ _ h => h))
        | str y t => exact P.repr_of_str (fin s.heap s.toks (s.toks + 1) (fun _ _ h => h)) k3
        | list _ _ _ _ => exact big _ rfl
        | tuple _ _ _ _ => exact big _ rfl
        | dict _ _ _ _ _ => exact big _ rfl
      · cases e
    · cases e
  · cases e
end
end Cb

set_option Elab.async false
set_option linter.all false
set_option maxRecDepth 100000
/-! Cb, part G: statements. -/
namespace Cb
open PySem PySem.Spec PyProof.Rows L2

/-- only the slots U may differ -/
def Agr (U : List Nat) (σ σ' : L2.St) : Prop := σ'.length = σ.length ∧ ∀ i, i ∉ U → σ'[i]? = σ[i]?
theorem Agr.refl {U : List Nat} {σ : L2.St} : Agr U σ σ := ⟨rfl, fun _ _ => rfl⟩
theorem Agr.trans {U : List Nat} {σ τ υ : L2.St} (a : Agr U σ τ) (b : Agr U τ υ) : Agr U σ υ := ⟨b.1.trans a.1, fun i h => (b.2 i h).trans (a.2 i h)⟩
theorem Agr.set {U : List Nat} {σ : L2.St} {i : Nat} {x : Option V} (h : i ∈ U) : Agr U σ (σ.set i x) := ⟨by simp, fun j hj => List.getElem?_set_ne (fun e => hj (by rw [← e]; exact h))⟩

section
variable (K : PySem.W.Frag) (T : Tb)
def PostS (U : List Nat) (σ : L2.St) (H : Hp) (G : Addr → Prop) (L : List Addr) (M : Mem) (r : Res Out) (D : Ends) (W : WX) : Prop :=
  match r with
  | .ok (.nx ρ) M' => ∀ σ' H' L', Nxt H L M H' L' M' → SR K T σ' H' ρ G L' M' → Agr U σ σ' → D.nx σ' H'
  | .ok (.bk ρ) M' => ∀ σ' H' L', Nxt H L M H' L' M' → SR K T σ' H' ρ G L' M' → Agr U σ σ' → D.bk σ' H'
  | .ok (.ct ρ) M' => ∀ σ' H' L', Nxt H L M H' L' M' → SR K T σ' H' ρ G L' M' → Agr U σ σ' → D.ct σ' H'
  | .ok (.rt e) M' => Post K T H G L M (.ok e M') D.rt never
  | .err x M' => ∀ cls d σ' H' L', Nxt H L M H' L' M' → MR K H' G L' M' → XR K T H' (Fbd L' M' G) x cls d → Agr U σ σ' → W cls d σ' H'
  | .bad => False
end
section
variable {K : PySem.W.Frag} {T : Tb} {H H1 : Hp} {G : Addr → Prop} {L L1 : List Addr} {M M1 : Mem} {σ σ1 : L2.St} {U : List Nat} {Dn : Ends} {W : WX}
theorem PostS.start {r : Res Out} (x : Nxt H L M H1 L1 M1) (a : Agr U σ σ1) (h : PostS K T U σ H G L M r Dn W) : PostS K T U σ1 H1 G L1 M1 r Dn W := by
  cases r with
  | ok o M' =>
    cases o with
    | nx ρ => exact fun σ' H' L' n s g => h σ' H' L' (x.trans n) s (a.trans g)
    | bk ρ => exact fun σ' H' L' n s g => h σ' H' L' (x.trans n) s (a.trans g)
    | ct ρ => exact fun σ' H' L' n s g => h σ' H' L' (x.trans n) s (a.trans g)
    | rt e => exact Post.start x h
  | err y M' => exact fun cls d σ' H' L' n m q g => h cls d σ' H' L' (x.trans n) m q (a.trans g)
  | bad => exact h
/-- a value, then the rest of the statement -/
theorem Post.bindS {r : Res Ev} {k : D → Mem → Res Out} {E : Ends} (h : PostS K T U σ H G L M ((stl r).bind k) E W) :
    Post K T H G L M r (fun v H1 => ∃ x L1 M1, Nxt H L M H1 L1 M1 ∧ MR K H1 G L1 M1 ∧ RD K T H1 G L1 M1 v x ∧ PostS K T U σ H1 G L1 M1 (k x M1) E W) (fun cls d H' => W cls d σ H') := by
  cases r with
  | ok e M' =>
    cases e with
    | d y => exact fun v H' L' n m q => ⟨y, L', M', n, m, q, PostS.start n .refl h⟩
    | new o =>
      intro p ho H' L' hp n m c
      have n2 : Nxt H L M (upd H' p ho) L' M' := n.trans (Nxt.fresh hp)
      exact ⟨.p o.toP, L', M', n2, m.fresh hp, .p (c.rp m hp), PostS.start n2 .refl h⟩
  | err y M' => exact fun cls d H' L' n m q => h cls d σ H' L' n m q .refl
  | bad => exact h
theorem PostT.bindS {r : Res Bool} {k : Bool → Mem → Res Out} {E : Ends} (h : PostS K T U σ H G L M (r.bind k) E W) :
    PostT K T H G L M r (fun b H1 => ∃ L1 M1, Nxt H L M H1 L1 M1 ∧ MR K H1 G L1 M1 ∧ PostS K T U σ H1 G L1 M1 (k b M1) E W) (fun cls d H' => W cls d σ H') := by
  cases r with
  | ok e M' => exact fun H' L' n m => ⟨L', M', n, m, PostS.start n .refl h⟩
  | err y M' => exact fun cls d H' L' n m q => h cls d σ H' L' n m q .refl
  | bad => exact h
theorem PostA.bindS {r : Res (List D)} {k : List D → Mem → Res Out} {E : Ends} (h : PostS K T U σ H G L M (r.bind k) E W) :
    PostA K T H G L M r (fun vs H1 => ∃ ds L1 M1, Nxt H L M H1 L1 M1 ∧ MR K H1 G L1 M1 ∧ RDs K T H1 G L1 M1 vs ds ∧ PostS K T U σ H1 G L1 M1 (k ds M1) E W) (fun cls d H' => W cls d σ H') := by
  cases r with
  | ok e M' => exact fun vs H' L' n m q => ⟨e, L', M', n, m, q, PostS.start n .refl h⟩
  | err y M' => exact fun cls d H' L' n m q => h cls d σ H' L' n m q .refl
  | bad => exact h
/-- a statement, then the rest -/
def thenS (r : Res Out) (k : Env → Mem → Res Out) : Res Out := r.bind fun o M1 => match o with
  | .nx ρ => k ρ M1
  | .bk ρ => .ok (.bk ρ) M1
  | .ct ρ => .ok (.ct ρ) M1
  | .rt e => .ok (.rt e) M1
@[simp] theorem thenS_nx (ρ : Env) (M : Mem) (k : Env → Mem → Res Out) : thenS (.ok (.nx ρ) M) k = k ρ M := rfl
@[simp] theorem thenS_bk (ρ : Env) (M : Mem) (k : Env → Mem → Res Out) : thenS (.ok (.bk ρ) M) k = .ok (.bk ρ) M := rfl
@[simp] theorem thenS_ct (ρ : Env) (M : Mem) (k : Env → Mem → Res Out) : thenS (.ok (.ct ρ) M) k = .ok (.ct ρ) M := rfl
@[simp] theorem thenS_rt (e : Ev) (M : Mem) (k : Env → Mem → Res Out) : thenS (.ok (.rt e) M) k = .ok (.rt e) M := rfl
@[simp] theorem thenS_err (x : Xc) (M : Mem) (k : Env → Mem → Res Out) : thenS (.err x M) k = .err x M := rfl
@[simp] theorem thenS_bad (k : Env → Mem → Res Out) : thenS .bad k = .bad := rfl
theorem PostS.seq {r : Res Out} {k : Env → Mem → Res Out} {nx : L2.St → Hp → Prop} (h : PostS K T U σ H G L M (thenS r k) Dn W) (hn : ∀ ρ' σ' H' L' M', SR K T σ' H' ρ' G L' M' → PostS K T U σ' H' G L' M' (k ρ' M') Dn W → nx σ' H') :
    PostS K T U σ H G L M r { Dn with nx := nx } W := by
  cases r with
  | ok o M' =>
    cases o with
    | nx ρ => exact fun σ' H' L' n s g => hn ρ σ' H' L' M' s (PostS.start n g h)
    | bk ρ => exact h
    | ct ρ => exact h
    | rt e => exact h
  | err y M' => exact h
  | bad => exact h
end
section
variable (X : Cx) (T : Tb) (W : WX) (U : List Nat)
def tS (φ : SFn) : TS := fun D σ H => ∃ ρ G L M, SR X.K T σ H ρ G L M ∧ PostS X.K T U σ H G L M (φ ρ M) D W
def SD (φ : SFn) (st : Stmt) : Prop := PS X st (tS X T W U φ)
def BD (φ : SFn) (sts : List Stmt) : Prop := PSs X sts (tS X T W U φ)
end
def sNx : SFn := fun ρ M => .ok (.nx ρ) M
def sBk : SFn := fun ρ M => .ok (.bk ρ) M
def sCt : SFn := fun ρ M => .ok (.ct ρ) M
def sSeq (φ ψ : SFn) : SFn := fun ρ M => thenS (φ ρ M) ψ
def sDrop (φ : PFn) : SFn := fun ρ M => (stl (φ ρ M)).bind fun _ M1 => .ok (.nx ρ) M1
def sRet (φ : PFn) : SFn := fun ρ M => (φ ρ M).bind fun e M1 => .ok (.rt e) M1
def sRetN : SFn := fun _ M => .ok (.rt (.d (.p .none))) M
def sIf (t : TFn) (φ ψ : SFn) : SFn := fun ρ M => (t ρ M).bind fun b M1 => if b = true then φ ρ M1 else ψ ρ M1
def sSet (i : Nat) (φ : PFn) : SFn := fun ρ M => (stl (φ ρ M)).bind fun x M1 => .ok (.nx (ρ.set i (some x))) M1
/-- a new thing is to change -/
def eAl (φ : PFn) : PFn := fun ρ M => (φ ρ M).bind fun e M1 => match e with
  | .d x => .ok (.d x) M1
  | .new o => .ok (.d (.obj M1.length)) (M1 ++ [o])
def sPar (i j : Nat) (α : AFn) : SFn := fun ρ M => (α ρ M).bind fun ds M1 => match ds with
  | [x, y] => .ok (.nx ((ρ.set i (some x)).set j (some y))) M1
  | _ => .bad
def sPar3 (i j l : Nat) (α : AFn) : SFn := fun ρ M => (α ρ M).bind fun ds M1 => match ds with
  | [x, y, z] => .ok (.nx (((ρ.set i (some x)).set j (some y)).set l (some z))) M1
  | _ => .bad
section
variable {X : Cx} {T : Tb} {W : WX} {U : List Nat} {φ' ψ' : SFn} {φ ψ : PFn} {α : AFn} {st : Stmt} {sts : List Stmt} {e : Expr} {pos pos' : Pos}
theorem SR.set {K : PySem.W.Frag} {H : Hp} {G : Addr → Prop} {L : List Addr} {M : Mem} {σ : L2.St} {ρ : Env} (s : SR K T σ H ρ G L M) {i : Nat} {v : V} {x : D} (r : RD K T H G L M v x) : SR K T (σ.set i (some v)) H (ρ.set i (some x)) G L M := by
  refine ⟨s.mr, by simp [s.len], fun j y h => ?_⟩
  by_cases hj : i = j
  · subst hj
    by_cases hl : i < ρ.length
    · rw [List.getElem?_set_self hl] at h
      cases h
      exact ⟨v, by rw [List.getElem?_set_self (by rw [← s.len]; exact hl)], r⟩
    · rw [List.getElem?_eq_none (by simpa using hl)] at h; cases h
  · rw [List.getElem?_set_ne hj] at h
    obtain ⟨w, h1, h2⟩ := s.env j y h
    exact ⟨w, by rw [List.getElem?_set_ne hj]; exact h1, h2⟩
theorem bd_nil : BD X T W U sNx [] := ⟨fun pins s σ H D I h => by
  obtain ⟨ρ, G, L, M, sr, h⟩ := h
  exact pss_nil.run pins s σ H D I (h σ H L Nxt.refl sr .refl)⟩
theorem PS.imp' {t t' : TS} (h : PS X st t) (i : ∀ D σ H, t' D σ H → t D σ H) : PS X st t' := ⟨fun pins s σ H D I q => h.run pins s σ H D I (i D σ H q)⟩
theorem PSs.imp' {t t' : TS} (h : PSs X sts t) (i : ∀ D σ H, t' D σ H → t D σ H) : PSs X sts t' := ⟨fun pins s σ H D I q => h.run pins s σ H D I (i D σ H q)⟩
theorem bd_cons (h1 : SD X T W U φ' st) (h2 : BD X T W U ψ' sts) : BD X T W U (sSeq φ' ψ') (st :: sts) := PSs.imp' (pss_cons h1 h2) fun D σ H h => by
  obtain ⟨ρ, G, L, M, sr, h⟩ := h
  exact ⟨ρ, G, L, M, sr, PostS.seq h fun ρ' σ' H' L' M' s' h' => ⟨ρ', G, L', M', s', h'⟩⟩
theorem bd_one (h1 : SD X T W U φ' st) : BD X T W U φ' [st] := pss_one h1
theorem sd_pass : SD X T W U sNx (.Pass pos) := PS.imp' ps_pass fun D σ H h => by
  obtain ⟨ρ, G, L, M, sr, h⟩ := h
  exact h σ H L Nxt.refl sr .refl
theorem sd_break : SD X T W U sBk (.Break pos) := PS.imp' ps_break fun D σ H h => by
  obtain ⟨ρ, G, L, M, sr, h⟩ := h
  exact h σ H L Nxt.refl sr .refl
theorem sd_continue : SD X T W U sCt (.Continue pos) := PS.imp' ps_continue fun D σ H h => by
  obtain ⟨ρ, G, L, M, sr, h⟩ := h
  exact h σ H L Nxt.refl sr .refl
theorem sd_doc {x : Str} {j : Nat} : SD X T W U sNx (.Expr (.Constant (.str x) j pos) pos') := PS.imp' ps_doc fun D σ H h => by
  obtain ⟨ρ, G, L, M, sr, h⟩ := h
  exact h σ H L Nxt.refl sr .refl
theorem sd_expr (he : PD X T W φ e) (hs : swapsWith e none pos.line X.env = pure false) : SD X T W U (sDrop φ) (.Expr e pos) := PS.imp' (ps_expr he hs) fun D σ H h => by
  obtain ⟨ρ, G, L, M, sr, h⟩ := h
  exact ⟨ρ, G, L, M, sr, (Post.bindS h).mono fun v H1 ⟨x, L1, M1, n1, m1, r1, h1⟩ => h1 σ H1 L1 Nxt.refl (sr.ext n1 m1) .refl⟩
theorem sd_ret (he : PD X T W φ e) : SD X T W U (sRet φ) (.Return (some e) pos) := PS.imp' (ps_ret he) fun D σ H h => by
  obtain ⟨ρ, G, L, M, sr, h⟩ := h
  refine ⟨ρ, G, L, M, sr, ?_⟩
  show Post X.K T H G L M (φ ρ M) D.rt _
  unfold sRet at h
  cases e1 : φ ρ M with
  | ok e M' => rw [e1] at h; exact Post.ok_any h _
  | err y M' => rw [e1] at h; exact fun cls d H' L' n m q => h cls d σ H' L' n m q .refl
  | bad => rw [e1] at h; exact h
theorem sd_retN : SD X T W U sRetN (.Return none pos) := PS.imp' ps_retN fun D σ H h => by
  obtain ⟨ρ, G, L, M, sr, h⟩ := h
  exact h .non H L Nxt.refl sr.mr (.p .non)
theorem sd_if {t : TFn} {c : Expr} {p q : List Stmt} (hc : TD X T W t c) (ha : BD X T W U φ' p) (hb : BD X T W U ψ' q) : SD X T W U (sIf t φ' ψ') (.If c p q pos) := PS.imp' (ps_if hc ha hb) fun D σ H h => by
  obtain ⟨ρ, G, L, M, sr, h⟩ := h
  refine ⟨ρ, G, L, M, sr, (PostT.bindS h).mono fun k H1 ⟨L1, M1, n1, m1, h1⟩ => ?_⟩
  cases k with
  | true => exact ⟨ρ, G, L1, M1, sr.ext n1 m1, h1⟩
  | false => exact ⟨ρ, G, L1, M1, sr.ext n1 m1, h1⟩
/-- what is behind the value of name = value -/
theorem set_go {i : Nat} (hu : i ∈ U) {D : Ends} {σ : L2.St} {H : Hp} {ρ : Env} {G : Addr → Prop} {L : List Addr} {M : Mem} (sr : SR X.K T σ H ρ G L M) (h : PostS X.K T U σ H G L M (sSet i φ ρ M) D W) :
    Post X.K T H G L M (φ ρ M) (fun v H1 => gName i v σ H1 D.nx) (fun cls d H' => W cls d σ H') :=
  (Post.bindS h).mono fun v H1 ⟨x, L1, M1, n1, m1, r1, h1⟩ => h1 _ H1 L1 Nxt.refl ((sr.ext n1 m1).set r1) (.set hu)
theorem sd_set {i : Nat} {x : Str} (c : XOk X) (hu : i ∈ U) (hi : X.N[i]? = some x) (hx : Loc X.env.scope x) (hf : X.fn x = true ∨ X.env.scope.names.lookup x = some .local) (he : PD X T W φ e) (hs : swapsWith e (some (.Name x pos')) pos.line X.env = pure false) :
    SD X T W U (sSet i φ) (.Assign [.Name x pos'] e pos) := PS.imp' (ps_set c.nd hi hx he hs hf) fun D σ H h => by
  obtain ⟨ρ, G, L, M, sr, h⟩ := h
  exact ⟨ρ, G, L, M, sr, set_go hu sr h⟩
theorem Post.alloc {K : PySem.W.Frag} {H : Hp} {G : Addr → Prop} {L : List Addr} {M : Mem} {r : Res Ev} {Q : VK} {E : XK} (h : Post K T H G L M (r.bind fun e M1 => match e with
  | .d x => .ok (.d x) M1
  | .new o => .ok (.d (.obj M1.length)) (M1 ++ [o])) Q E) : Post K T H G L M r Q E := by
  cases r with
  | ok e M' =>
    cases e with
    | d x => exact h
    | new o =>
      intro p ho H' L' hp n m c
      exact h (.ref p) _ (L' ++ [p]) (n.trans (Nxt.alloc m.len hp)) (m.alloc hp c) (.obj (by rw [← m.len]; simp))
  | err x M' => exact h
  | bad => exact h
theorem pd_al (he : PD X T W φ e) : PD X T W (eAl φ) e := PE.imp he fun σ H Q h => by
  obtain ⟨ρ, G, L, M, sr, h⟩ := h
  exact ⟨ρ, G, L, M, sr, Post.alloc h⟩
theorem sd_par {i j : Nat} {x y : Str} {a b : Expr} {px py pt : Pos} {kt k2 : Nat} {pt2 : Pos} (c : XOk X) (hui : i ∈ U) (huj : j ∈ U) (hi : X.N[i]? = some x) (hj : X.N[j]? = some y) (hij : i ≠ j) (hx : X.env.scope.names.lookup x = some .local) (hy : X.env.scope.names.lookup y = some .local) (ha : AD X T W α [a, b])
    (hw : swappedStores [.Tuple [.Name x px, .Name y py] kt pt] (.Tuple [a, b] k2 pt2) X.env = pure (some [x, y])) (hs : swapsWithSole [.Tuple [.Name x px, .Name y py] kt pt] (.Tuple [a, b] k2 pt2) pos.line X.env = pure false) :
    SD X T W U (sPar i j α) (.Assign [.Tuple [.Name x px, .Name y py] kt pt] (.Tuple [a, b] k2 pt2) pos) := PS.imp' (ps_par c.calm c.nd hi hj hij hx hy ha hw hs) fun D σ H h => by
  obtain ⟨ρ, G, L, M, sr, h⟩ := h
  refine ⟨ρ, G, L, M, sr, (PostA.bindS h).mono fun vs H1 ⟨ds, L1, M1, n1, m1, r1, h1⟩ => ?_⟩
  split at h1
  · cases r1 with
    | cons a1 a2 =>
    cases a2 with
    | cons b1 b2 =>
    cases b2
    exact ⟨_, _, rfl, h1 _ H1 L1 Nxt.refl (((sr.ext n1 m1).set a1).set b1) ((Agr.set hui).trans (.set huj))⟩
  · exact h1.elim
theorem sd_par3 {i j l : Nat} {x y z : Str} {a b c' : Expr} {px py pz pt : Pos} {kt k2 : Nat} {pt2 : Pos} (c : XOk X) (hui : i ∈ U) (huj : j ∈ U) (hul : l ∈ U) (hi : X.N[i]? = some x) (hj : X.N[j]? = some y) (hl : X.N[l]? = some z) (hij : i ≠ j) (hil : i ≠ l) (hjl : j ≠ l)
    (hx : X.env.scope.names.lookup x = some .local) (hy : X.env.scope.names.lookup y = some .local) (hz : X.env.scope.names.lookup z = some .local) (ha : AD X T W α [a, b, c'])
    (hw : swappedStores [.Tuple [.Name x px, .Name y py, .Name z pz] kt pt] (.Tuple [a, b, c'] k2 pt2) X.env = pure (some [x, y, z])) (hs : swapsWithSole [.Tuple [.Name x px, .Name y py, .Name z pz] kt pt] (.Tuple [a, b, c'] k2 pt2) pos.line X.env = pure false) :
    SD X T W U (sPar3 i j l α) (.Assign [.Tuple [.Name x px, .Name y py, .Name z pz] kt pt] (.Tuple [a, b, c'] k2 pt2) pos) := PS.imp' (ps_par3 c.calm c.nd hi hj hl hij hil hjl hx hy hz ha hw hs) fun D σ H h => by
  obtain ⟨ρ, G, L, M, sr, h⟩ := h
  refine ⟨ρ, G, L, M, sr, (PostA.bindS h).mono fun vs H1 ⟨ds, L1, M1, n1, m1, r1, h1⟩ => ?_⟩
  split at h1
  · cases r1 with
    | cons a1 a2 =>
    cases a2 with
    | cons b1 b2 =>
    cases b2 with
    | cons c1 c2 =>
    cases c2
    exact ⟨_, _, _, rfl, h1 _ H1 L1 Nxt.refl ((((sr.ext n1 m1).set a1).set b1).set c1) (((Agr.set hui).trans (.set huj)).trans (.set hul))⟩
  · exact h1.elim
/-! ### name op= value -/
def sAug (i : Nat) (g : D → D → Mem → Option Ev) (φ : PFn) : SFn := fun ρ M => match ρ[i]? with
  | some (some x) => (stl (φ ρ M)).bind fun y M1 => (stl (ofO (g x y M1) M1)).bind fun z M2 => .ok (.nx (ρ.set i (some z))) M2
  | _ => .bad
theorem sd_aug {i : Nat} {x : Str} {op : Operator} {g : D → D → Mem → Option Ev} (c : XOk X) (hu : i ∈ U) (hi : X.N[i]? = some x) (hx : Loc X.env.scope x) (hf : X.fn x = true ∨ X.env.scope.names.lookup x = some .local) (he : PD X T W φ e) (ho : OpG X T (inplaceOp op) g) :
    SD X T W U (sAug i g φ) (.AugAssign (.Name x pos') op e pos) := PS.imp' (ps_aug (ti := fun x y H Q => ∃ a b r G L M, MR X.K H G L M ∧ RD X.K T H G L M x a ∧ RD X.K T H G L M y b ∧ g a b M = some r ∧ Post X.K T H G L M (.ok r M) Q never) c.nd hi hx he (fun pins s σ H a b v u Q I ra rb h => ho pins s σ H a b v u Q I ra rb h) hf) fun D σ H h => by
  obtain ⟨ρ, G, L, M, sr, h⟩ := h
  unfold sAug at h
  split at h
  · rename_i y ey
    obtain ⟨v, e1, r⟩ := sr.env i y ey
    refine ⟨v, e1, ρ, G, L, M, sr, (Post.bindS h).mono fun w H1 ⟨z, L1, M1, n1, m1, r1, h1⟩ => ?_⟩
    have h2 := Post.bindS h1
    obtain ⟨t, eg, q⟩ := ofO_post h2
    refine ⟨y, z, t, G, L1, M1, m1, r.ext n1, r1, eg, q.mono fun w2 H2 ⟨z2, L2, M2, n2, m2, r2, h3⟩ => ?_⟩
    exact h3 _ H2 L2 Nxt.refl (((sr.ext n1 m1).ext n2 m2).set r2) (.set hu)
  · exact h.elim
/-! ### o[i] = value -/
def dSet : D → D → D → Mem → Option Mem := fun o i v M => match o with
  | .obj n => match pur v M with
    | some (y, M1) => match M1[n]? with
      | some (.lst xs) => match i with
        | .p (.int k) => match ixN xs.length k with
          | some j => some (M1.set n (.lst (xs.set j y)))
          | none => none
        | _ => none
      | some (.dct kvs) => match i with
        | .p k => match keyOf k with
          | some _ => if kvs.length < sizeLine then some (M1.set n (.dct (dputP kvs k y))) else none
          | none => none
        | _ => none
      | _ => none
    | none => none
  | _ => none
def rSetG (X : Cx) (T : Tb) : TSet := fun o i v H Q => ∃ od id vd M' G L M, MR X.K H G L M ∧ RD X.K T H G L M o od ∧ RD X.K T H G L M i id ∧ RD X.K T H G L M v vd ∧ dSet od id vd M = some M' ∧ ∀ H', Nxt H L M H' L M' → MR X.K H' G L M' → Q H'
theorem set_g (c : XOk X) : PSet X (rSetG X T) := by
  intro pins s σ H o i v ov iv u Q I ro ri rv h
  obtain ⟨od, id, vd, M', G, L, M, m, r1, r2, r3, e, q⟩ := h
  unfold dSet at e
  split at e
  · rename_i n
    split at e
    · rename_i y M1 e1
      obtain ⟨n1, m1, q1⟩ := pur_ok m r3 e1
      split at e
      · rename_i xs e2
        split at e
        · rename_i k
          split at e
          · rename_i j ej
            cases e
            obtain ⟨a, vs, rfl, h1, h2, h3, h4⟩ := lst_at m1 (r1.ext n1) e2
            have := r2.int
            subst this
            exact set_list pins s σ H _ _ _ ov iv u Q I ro ri rv ⟨a, vs, k, j, rfl, rfl, h3, by rw [h4.length]; exact ej, q _ (n1.trans (Nxt.write h1 h2)) (m1.write h1 h2 (.lst (h4.set q1 j)))⟩
          · cases e
        · cases e
      · rename_i kvs e2
        split at e
        · rename_i k
          split at e
          · rename_i kk ek
            split at e
            · rename_i hz
              cases e
              obtain ⟨a, vs, rfl, h1, h2, h3, h4⟩ := dct_at m1 (r1.ext n1) e2
              cases r2 with
              | p r2 =>
              have := kV_of r2 ek
              subst this
              have ekP := keyOf_P ek
              subst ekP
              exact set_dict (by have := c.hu; omega) pins s σ H _ _ _ ov iv u Q I ro ri rv ⟨a, _, rfl, DPut.k h3 (by rw [h4.length]; exact hz), q _ (n1.trans (Nxt.write h1 h2)) (m1.write h1 h2 (.dct (h4.put q1)))⟩
            · cases e
          · cases e
        · cases e
      · cases e
    · cases e
  · cases e
def sSto (φo φi φv : PFn) : SFn := fun ρ M => (stl (φv ρ M)).bind fun v M1 => (stl (φo ρ M1)).bind fun o M2 => (stl (φi ρ M2)).bind fun i M3 => match dSet o i v M3 with
  | some M4 => .ok (.nx ρ) M4
  | none => .bad
theorem sd_sto {o i v : Expr} {φo φi φv : PFn} {tpos : Pos} (c : XOk X) (ho : PD X T W φo o) (hi : PD X T W φi i) (hv : PD X T W φv v) (hs : swapsWithSole [.Subscript o i tpos] v pos.line X.env = pure false) (hw : swappedStores [.Subscript o i tpos] v X.env = pure none)
    (ha : ∀ v, assign (.Subscript o i tpos) X.env v = (do
      let ov ← holding [v] (eval o X.env)
      let iv ← holding [v, ov] (eval i X.env)
      standAt tpos
      holding [v, ov, iv] (setItem ov iv v)
      release [v, ov, iv] [])) (h1 : (assignEach [.Subscript o i tpos] X.env).map (·.2) = [assign (.Subscript o i tpos) X.env]) :
    SD X T W U (sSto φo φi φv) (.Assign [.Subscript o i tpos] v pos) := PS.imp' (ps_asg hv (pg_sub ho hi (set_g c) ha) hs hw h1) fun D σ H h => by
  obtain ⟨ρ, G, L, M, sr, h⟩ := h
  refine ⟨ρ, G, L, M, sr, (Post.bindS h).mono fun w H1 ⟨z, L1, M1, n1, m1, r1, h1⟩ => ?_⟩
  have s1 := sr.ext n1 m1
  refine ⟨ρ, G, L1, M1, s1, (Post.bindS h1).mono fun w2 H2 ⟨z2, L2, M2, n2, m2, r2, h2⟩ => ?_⟩
  have s2 := s1.ext n2 m2
  refine ⟨ρ, G, L2, M2, s2, (Post.bindS h2).mono fun w3 H3 ⟨z3, L3, M3, n3, m3, r3, h3⟩ => ?_⟩
  have s3 := s2.ext n3 m3
  split at h3
  · rename_i M4 e4
    exact ⟨z2, z3, z, M4, G, L3, M3, m3, r2.ext n3, r3, (r1.ext n2).ext n3, e4, fun H' n4 m4 => h3 σ H' L3 n4 (s3.ext n4 m4) .refl⟩
  · exact h3.elim
end
end Cb

set_option Elab.async false
set_option linter.all false
set_option maxRecDepth 100000
/-! Cb, part H: targets, what is walked, loops. -/
namespace Cb
open PySem PySem.Spec PyProof.Rows L2

/-! ### targets of loops: the item is plain data -/
abbrev GFn := P → Env → Option Env
section
variable (X : Cx) (T : Tb) (U : List Nat)
def tG (γ : GFn) : TG := fun v σ H Q => ∃ ρ ρ' G L M x, SR X.K T σ H ρ G L M ∧ Rp X.K H (Fbd L M G) v x ∧ γ x ρ = some ρ' ∧ ∀ σ', SR X.K T σ' H ρ' G L M → Agr U σ σ' → Q σ' H
def GD (γ : GFn) (tg : Expr) : Prop := PG X tg (tG X T U γ)
abbrev GsFn := List P → Env → Option Env
def tGs (γ : GsFn) : TGs := fun vs σ H Q => ∃ ρ ρ' G L M xs, SR X.K T σ H ρ G L M ∧ RpAll X.K H (Fbd L M G) vs xs ∧ γ xs ρ = some ρ' ∧ ∀ σ', SR X.K T σ' H ρ' G L M → Agr U σ σ' → Q σ' H
def GsD (γ : GsFn) (ts : List Expr) : Prop := PGs X ts (tGs X T U γ)
end
theorem PG.imp {X : Cx} {tg : Expr} {t t' : TG} (h : PG X tg t) (i : ∀ v σ H Q, t' v σ H Q → t v σ H Q) : PG X tg t' := ⟨fun pins s σ H v u Q I r q => h.run pins s σ H v u Q I r (i v σ H Q q)⟩
theorem PGs.imp {X : Cx} {ts : List Expr} {t t' : TGs} (h : PGs X ts t) (i : ∀ v σ H Q, t' v σ H Q → t v σ H Q) : PGs X ts t' := ⟨fun pins s σ H v u Q I r q => h.run pins s σ H v u Q I r (i v σ H Q q)⟩
def gNm (i : Nat) : GFn := fun x ρ => some (ρ.set i (some (.p x)))
def gsNil : GsFn := fun xs ρ => match xs with
  | [] => some ρ
  | _ => none
def gsCons (γ : GFn) (γs : GsFn) : GsFn := fun xs ρ => match xs with
  | [] => none
  | x :: r => match γ x ρ with
    | some ρ' => γs r ρ'
    | none => none
def gTp (γs : GsFn) : GFn := fun x ρ => match x with
  | .tuple xs => γs xs ρ
  | _ => none
section
variable {X : Cx} {T : Tb} {U : List Nat} {pos : Pos} {tg : Expr} {ts : List Expr} {γ : GFn} {γs : GsFn}
theorem gd_name {i : Nat} {x : Str} (c : XOk X) (hu : i ∈ U) (hi : X.N[i]? = some x) (hx : Loc X.env.scope x) (hf : X.fn x = true ∨ X.env.scope.names.lookup x = some .local) : GD X T U (gNm i) (.Name x pos) := PG.imp (pg_name c.nd hi hx hf) fun v σ H Q h => by
  obtain ⟨ρ, ρ', G, L, M, y, sr, r, e, q⟩ := h
  cases e
  exact q _ (sr.set (.p r)) (.set hu)
theorem gsd_nil : GsD X T U gsNil [] := PGs.imp pgs_nil fun v σ H Q h => by
  obtain ⟨ρ, ρ', G, L, M, y, sr, r, e, q⟩ := h
  unfold gsNil at e
  split at e
  · cases e
    cases r
    exact ⟨rfl, q σ sr .refl⟩
  · cases e
/-- not a starred target -/
theorem gsd_cons (h1 : GD X T U γ tg) (h2 : GsD X T U γs ts) (hs : (assignEach (tg :: ts) X.env).map (·.2) = assign tg X.env :: (assignEach ts X.env).map (·.2)) : GsD X T U (gsCons γ γs) (tg :: ts) := PGs.imp (pgs_cons h1 h2 hs) fun v σ H Q h => by
  obtain ⟨ρ, ρ', G, L, M, y, sr, r, e, q⟩ := h
  unfold gsCons at e
  split at e
  · cases e
  · split at e
    · rename_i ρ1 e1
      cases r with
      | cons r1 r2 => exact ⟨_, _, rfl, ρ, ρ1, G, L, M, _, sr, r1, e1, fun σ' s' a' => ⟨ρ1, ρ', G, L, M, _, s', r2, e, fun σ2 s2 a2 => q σ2 s2 (a'.trans a2)⟩⟩
    · cases e
theorem gd_tup {k : Nat} (c : XOk X) (h : GsD X T U γs ts) (hn : (assignEach ts X.env).length = ts.length) (hl : ∀ xs ρ ρ', γs xs ρ = some ρ' → xs.length = ts.length) (hst : (assignEach ts X.env).findIdx? (·.1) = none) : GD X T U (gTp γs) (.Tuple ts k pos) := PG.imp (pg_tup c.calm h hn hst) fun v σ H Q h => by
  obtain ⟨ρ, ρ', G, L, M, y, sr, r, e, q⟩ := h
  unfold gTp at e
  split at e
  · rename_i xs
    have hlen := hl xs ρ ρ' e
    cases r with
    | tup h1 hn1 r1 => exact ⟨_, _, rfl, .inl h1, by rw [r1.length]; exact hlen, ρ, ρ', G, L, M, xs, sr, r1, e, q⟩
    | tupK h1 h2 h3 h4 h5 r1 => exact ⟨_, _, rfl, .inr ⟨_, _, _, h1, h2, h3, h4, h5⟩, by rw [r1.length]; exact hlen, ρ, ρ', G, L, M, xs, sr, r1, e, q⟩
  · cases e
end
theorem gsNil_len : ∀ xs ρ ρ', gsNil xs ρ = some ρ' → xs.length = 0 := fun xs ρ ρ' e => by
  unfold gsNil at e
  split at e
  · rfl
  · cases e
theorem gsCons_len {γ : GFn} {γs : GsFn} {n : Nat} (h : ∀ xs ρ ρ', γs xs ρ = some ρ' → xs.length = n) : ∀ xs ρ ρ', gsCons γ γs xs ρ = some ρ' → xs.length = n + 1 := fun xs ρ ρ' e => by
  unfold gsCons at e
  split at e
  · cases e
  · split at e
    · rw [List.length_cons, h _ _ _ e]
    · cases e

/-! ### what is walked -/
abbrev Stp := Nat → Mem → Option (Option P)
/-- one state's knowledge in another -/
def Ext (H1 : Hp) (F1 : Addr → Prop) (L1 : List Addr) (H : Hp) (F : Addr → Prop) (L : List Addr) : Prop := Keeps H1 F1 H F ∧ ∀ (n : Nat) (a : Addr), L1[n]? = some a → L[n]? = some a
theorem Nxt.ext {H H' : Hp} {G : Addr → Prop} {L L' : List Addr} {M M' : Mem} (x : Nxt H L M H' L' M') : Ext H (Fbd L M G) L H' (Fbd L' M' G) L' := ⟨x.keeps, fun _ _ h => x.get h⟩
theorem Ext.refl {H : Hp} {F : Addr → Prop} {L : List Addr} : Ext H F L H F L := ⟨Keeps.refl, fun _ _ h => h⟩
theorem Ext.trans {H H' H2 : Hp} {F F' F2 : Addr → Prop} {L L' L2 : List Addr} (a : Ext H F L H' F' L') (b : Ext H' F' L' H2 F2 L2) : Ext H F L H2 F2 L2 := ⟨a.1.trans b.1, fun n c h => b.2 n c (a.2 n c h)⟩
section
variable (K : PySem.W.Frag)
structure ItOk (H1 : Hp) (F1 : Addr → Prop) (L1 : List Addr) (J : It) (step : Stp) : Prop where
  stop : ∀ i H G L M, Ext H1 F1 L1 H (Fbd L M G) L → MR K H G L M → step i M = some none → J.stop i H
  go : ∀ i H G L M x, Ext H1 F1 L1 H (Fbd L M G) L → MR K H G L M → step i M = some (some x) → J.go i H ∧ ∀ v H', J.yld i H v H' → (H' = H ∨ ∃ p ho, H p = none ∧ H' = upd H p ho) ∧ Rp K H' (Fbd L M G) v x
variable (T : Tb)
def PostI (H : Hp) (G : Addr → Prop) (L : List Addr) (M : Mem) (r : Res Stp) (R : It → Hp → Prop) (E : XK) : Prop :=
  match r with
  | .ok st M' => ∀ J H' L', Nxt H L M H' L' M' → MR K H' G L' M' → ItOk K H' (Fbd L' M' G) L' J st → R J H'
  | .err x M' => ∀ cls d H' L', Nxt H L M H' L' M' → MR K H' G L' M' → XR K T H' (Fbd L' M' G) x cls d → E cls d H'
  | .bad => False
end
abbrev IFn := Env → Mem → Res Stp
section
variable (X : Cx) (T : Tb) (W : WX)
def tI (ι : IFn) : TI := fun σ H R => ∃ ρ G L M, SR X.K T σ H ρ G L M ∧ PostI X.K T H G L M (ι ρ M) R fun cls d H' => W cls d σ H'
def ID (ι : IFn) (tg iter : Expr) : Prop := PI X tg iter (tI X T W ι)
end
theorem ItOk.ext {K : PySem.W.Frag} {H1 H2 : Hp} {F1 F2 : Addr → Prop} {L1 L2 : List Addr} {J : It} {step : Stp} (h : ItOk K H1 F1 L1 J step) (x : Ext H1 F1 L1 H2 F2 L2) : ItOk K H2 F2 L2 J step :=
  ⟨fun i H G L M e => h.stop i H G L M (x.trans e), fun i H G L M y e => h.go i H G L M y (x.trans e)⟩

/-! ### for -/
@[irreducible] def FUEL : Nat := 16777217
theorem FUEL_eq : FUEL = 16777217 := by unfold FUEL; rfl
def forL (step : Stp) (γ : GFn) (body els : SFn) : Nat → Nat → Env → Mem → Res Out
  | 0, _, _, _ => .bad
  | f + 1, i, ρ, M => match step i M with
    | none => .bad
    | some none => els ρ M
    | some (some x) => match γ x ρ with
      | none => .bad
      | some ρ1 => (body ρ1 M).bind fun o M1 => match o with
        | .nx ρ2 => forL step γ body els f (i + 1) ρ2 M1
        | .ct ρ2 => forL step γ body els f (i + 1) ρ2 M1
        | .bk ρ2 => .ok (.nx ρ2) M1
        | .rt e => .ok (.rt e) M1
def sFor (ι : IFn) (γ : GFn) (body els : SFn) : SFn := fun ρ M => (ι ρ M).bind fun st M1 => forL st γ body els FUEL 0 ρ M1
section
variable {X : Cx} {T : Tb} {W : WX} {U : List Nat} {pos : Pos} {tg iter : Expr} {ι : IFn} {γ : GFn} {bφ eφ : SFn} {body orelse : List Stmt}
theorem PostI.bindS {K : PySem.W.Frag} {H : Hp} {G : Addr → Prop} {L : List Addr} {M : Mem} {σ : L2.St} {r : Res Stp} {k : Stp → Mem → Res Out} {E : Ends} (h : PostS K T U σ H G L M (r.bind k) E W) :
    PostI K T H G L M r (fun J H1 => ∃ st L1 M1, Nxt H L M H1 L1 M1 ∧ MR K H1 G L1 M1 ∧ ItOk K H1 (Fbd L1 M1 G) L1 J st ∧ PostS K T U σ H1 G L1 M1 (k st M1) E W) (fun cls d H' => W cls d σ H') := by
  cases r with
  | ok st M' => exact fun J H' L' n m q => ⟨st, L', M', n, m, q, PostS.start n .refl h⟩
  | err y M' => exact fun cls d H' L' n m q => h cls d σ H' L' n m q .refl
  | bad => exact h
theorem sd_for (c : XOk X) (hp : PassesOwn (model X.prog X.w) X.A X.env X.xe) (hi : ID X T W ι tg iter) (hg : GD X T U γ tg) (hb : BD X T W U bφ body) (ho : BD X T W U eφ orelse) (hs : ∀ x, foldedSetIterable iter X.env x = pure x) :
    SD X T W U (sFor ι γ bφ eφ) (.For tg iter body orelse pos) := PS.imp' (ps_forE hp c.calm hi hg hb ho hs) fun D σ H h => by
  obtain ⟨ρ, G, L, M, sr, h⟩ := h
  refine ⟨ρ, G, L, M, sr, ?_⟩
  have h1 := PostI.bindS h
  revert h1
  generalize ι ρ M = r
  intro h1
  cases r with
  | bad => exact h1
  | err x M' => exact h1
  | ok st M0 =>
    intro J H0 L0 n0 m0 io
    obtain ⟨st', L1, M1, n1, m1, io1, h2⟩ := h1 J H0 L0 n0 m0 io
    have s1 := sr.ext n1 m1
    refine ⟨fun i f σ' H' => ∃ ρ' L' M', SR X.K T σ' H' ρ' G L' M' ∧ Nxt H0 L1 M1 H' L' M' ∧ Agr U σ σ' ∧ PostS X.K T U σ' H' G L' M' (forL st' γ bφ eφ f i ρ' M') D W, ⟨FUEL, ρ, L1, M1, s1, Nxt.refl, .refl, h2⟩, ?_⟩
    rintro i f σ' H' ⟨ρ', L', M', s', n', a', p⟩
    cases f with
    | zero => exact False.elim p
    | succ f =>
      unfold forL at p
      split at p
      · exact False.elim p
      · rename_i e
        exact .inl ⟨io1.stop i H' G L' M' n'.ext s'.mr e, ρ', G, L', M', s', p⟩
      · rename_i x e
        obtain ⟨go, yl⟩ := io1.go i H' G L' M' x n'.ext s'.mr e
        split at p
        · exact False.elim p
        · rename_i ρ1 eγ
          refine .inr ⟨go, fun σ2 H2 => ∃ ρ' L' M', SR X.K T σ2 H2 ρ' G L' M' ∧ Nxt H0 L1 M1 H2 L' M' ∧ Agr U σ σ2 ∧ PostS X.K T U σ2 H2 G L' M' (forL st' γ bφ eφ f (i + 1) ρ' M') D W, fun σ2 H2 w => ⟨f, Nat.lt_succ_self _, w⟩, fun v H2 y => ?_⟩
          obtain ⟨hH, rx⟩ := yl v H2 y
          have n2 : Nxt H' L' M' H2 L' M' := by
            rcases hH with rfl | ⟨pa, ho', hp, rfl⟩
            · exact Nxt.refl
            · exact Nxt.fresh hp
          have m2 : MR X.K H2 G L' M' := by
            rcases hH with rfl | ⟨pa, ho', hp, rfl⟩
            · exact s'.mr
            · exact s'.mr.fresh hp
          refine ⟨ρ', ρ1, G, L', M', x, s'.ext n2 m2, rx, eγ, fun σ3 s3 a3 => ⟨ρ1, G, L', M', s3, ?_⟩⟩
          revert p
          generalize bφ ρ1 M' = rb
          intro p
          cases rb with
          | bad => exact False.elim p
          | err z Mz => exact fun cls d σ4 H4 L4 n4 m4 q4 a4 => p cls d σ4 H4 L4 (n2.trans n4) m4 q4 (a3.trans a4)
          | ok o Mo =>
            cases o with
            | nx ρ2 => exact fun σ4 H4 L4 n4 s4 a4 => ⟨ρ2, L4, Mo, s4, n'.trans (n2.trans n4), a'.trans (a3.trans a4), PostS.start (n2.trans n4) (a3.trans a4) p⟩
            | ct ρ2 => exact fun σ4 H4 L4 n4 s4 a4 => ⟨ρ2, L4, Mo, s4, n'.trans (n2.trans n4), a'.trans (a3.trans a4), PostS.start (n2.trans n4) (a3.trans a4) p⟩
            | bk ρ2 => exact fun σ4 H4 L4 n4 s4 a4 => p σ4 H4 L4 (n2.trans n4) s4 (a3.trans a4)
            | rt e => exact Post.start n2 p

/-! ### while -/
end
def whL (t : TFn) (body els : SFn) : Nat → Env → Mem → Res Out
  | 0, _, _ => .bad
  | f + 1, ρ, M => (t ρ M).bind fun b M1 => if b = true then (body ρ M1).bind fun o M2 => match o with
      | .nx ρ2 => whL t body els f ρ2 M2
      | .ct ρ2 => whL t body els f ρ2 M2
      | .bk ρ2 => .ok (.nx ρ2) M2
      | .rt e => .ok (.rt e) M2
    else els ρ M1
def sWh (t : TFn) (body els : SFn) : SFn := fun ρ M => whL t body els FUEL ρ M
section
variable {X : Cx} {T : Tb} {W : WX} {U : List Nat} {pos : Pos} {c0 : Expr} {t : TFn} {bφ eφ : SFn} {body orelse : List Stmt}
theorem sd_while (c : XOk X) (hp : PassesOwn (model X.prog X.w) X.A X.env X.xe) (hc : TD X T W t c0) (hb : BD X T W U bφ body) (ho : BD X T W U eφ orelse) : SD X T W U (sWh t bφ eφ) (.While c0 body orelse pos) := PS.imp' (ps_whileE hp hc hb ho) fun D σ H h => by
  obtain ⟨ρ, G, L, M, sr, h⟩ := h
  refine ⟨fun f σ' H' => ∃ ρ' L' M', SR X.K T σ' H' ρ' G L' M' ∧ Nxt H L M H' L' M' ∧ Agr U σ σ' ∧ PostS X.K T U σ' H' G L' M' (whL t bφ eφ f ρ' M') D W, ⟨FUEL, ρ, L, M, sr, Nxt.refl, .refl, h⟩, ?_⟩
  rintro f σ' H' ⟨ρ', L', M', s', n', a', p⟩
  cases f with
  | zero => exact False.elim p
  | succ f =>
    unfold whL at p
    refine ⟨ρ', G, L', M', s', (PostT.bindS p).mono fun b H1 ⟨L1, M1, n1, m1, h1⟩ => ?_⟩
    have s1 := s'.ext n1 m1
    cases b with
    | false => exact ⟨ρ', G, L1, M1, s1, h1⟩
    | true =>
      rw [if_pos rfl] at h1
      refine ⟨fun σ2 H2 => ∃ ρ' L' M', SR X.K T σ2 H2 ρ' G L' M' ∧ Nxt H L M H2 L' M' ∧ Agr U σ σ2 ∧ PostS X.K T U σ2 H2 G L' M' (whL t bφ eφ f ρ' M') D W, fun σ2 H2 w => ⟨f, Nat.lt_succ_self _, w⟩, ρ', G, L1, M1, s1, ?_⟩
      revert h1
      generalize bφ ρ' M1 = rb
      intro p
      cases rb with
      | bad => exact False.elim p
      | err z Mz => exact p
      | ok o Mo =>
        cases o with
        | nx ρ2 => exact fun σ4 H4 L4 n4 s4 a4 => ⟨ρ2, L4, Mo, s4, n'.trans (n1.trans n4), a'.trans a4, PostS.start n4 a4 p⟩
        | ct ρ2 => exact fun σ4 H4 L4 n4 s4 a4 => ⟨ρ2, L4, Mo, s4, n'.trans (n1.trans n4), a'.trans a4, PostS.start n4 a4 p⟩
        | bk ρ2 => exact p
        | rt e => exact p
end

/-! ### the iterators -/
def stL (xs : List P) : Stp := fun i _ => some xs[i]?
/-- a changing list, as it stands at each turn -/
def stO (n : Nat) : Stp := fun i M => match M[n]? with
  | some (.lst xs) => some xs[i]?
  | _ => none
def stR (lo : Int) (n : Nat) : Stp := fun i _ => if i < n then some (some (.int (lo + i))) else some none
def stC (lo c : Int) (n : Nat) : Stp := fun i _ => if i < n then some (some (.int (lo + (i : Nat) * c))) else some none
section
variable {K : PySem.W.Frag} {H1 : Hp} {F1 : Addr → Prop} {L1 : List Addr}
theorem it_list {a : Addr} {vs : List V} {xs : List P} (h : FL K H1 F1 a vs) (r : RpAll K H1 F1 vs xs) : ItOk K H1 F1 L1 (Itl K a) (stL xs) := by
  refine ⟨fun i H G L M x m e => ?_, fun i H G L M y x m e => ?_⟩
  · have e' : xs[i]? = none := by simpa [stL] using e
    exact ⟨vs, (h.ext x.1).sq, by rw [r.length]; exact List.getElem?_eq_none_iff.mp e'⟩
  · have e' : xs[i]? = some y := by simpa [stL] using e
    have r' := RpAll.ext x.1 _ _ r
    obtain ⟨v, hv, rv⟩ := r'.get e'
    have hq : SqL K H a vs := (h.ext x.1).sq
    exact ⟨⟨vs, v, hq, hv⟩, fun w H' yl => ⟨.inl yl.1, by
      have := yl.2 vs hq
      rw [hv] at this; cases this
      rw [yl.1]; exact rv⟩⟩
theorem it_tup {a : Addr} {vs : List V} {xs : List P} (r0 : Rp K H1 F1 (.ref a) (.tuple xs)) : ItOk K H1 F1 L1 (Itt K a) (stL xs) := by
  have sq : ∀ {H : Hp} {F : Addr → Prop}, Keeps H1 F1 H F → ∃ us, SqT K H a us ∧ RpAll K H F us xs := fun {H F} k => by
    have r1 := Rp.ext k _ _ r0
    cases r1 with
    | tup h hn r => exact ⟨_, .inl h, r⟩
    | tupK h1 h2 h3 h4 h5 r => exact ⟨_, .inr ⟨_, _, _, h1, h2, h3, h4, h5⟩, r⟩
  refine ⟨fun i H G L M x m e => ?_, fun i H G L M y x m e => ?_⟩
  · have e' : xs[i]? = none := by simpa [stL] using e
    obtain ⟨us, h1, r⟩ := sq x.1
    exact ⟨us, h1, by rw [r.length]; exact List.getElem?_eq_none_iff.mp e'⟩
  · have e' : xs[i]? = some y := by simpa [stL] using e
    obtain ⟨us, h1, r⟩ := sq x.1
    obtain ⟨v, hv, rv⟩ := r.get e'
    exact ⟨⟨us, v, h1, hv⟩, fun w H' yl => ⟨.inl yl.1, by
      have := yl.2 us h1
      rw [hv] at this; cases this
      rw [yl.1]; exact rv⟩⟩
theorem it_obj {a : Addr} {n : Nat} (h : L1[n]? = some a) : ItOk K H1 F1 L1 (Itl K a) (stO n) := by
  refine ⟨fun i H G L M x m e => ?_, fun i H G L M y x m e => ?_⟩
  · unfold stO at e
    split at e
    · rename_i ys e2
      obtain ⟨ho, e3, c⟩ := m.at_ n a _ (x.2 n a h) e2 rfl
      cases c with
      | lst r => exact ⟨_, .inl (.inl e3), by rw [r.length]; exact List.getElem?_eq_none_iff.mp (by simpa using e)⟩
    · cases e
  · unfold stO at e
    split at e
    · rename_i ys e2
      obtain ⟨ho, e3, c⟩ := m.at_ n a _ (x.2 n a h) e2 rfl
      cases c with
      | lst r =>
        have e' : ys[i]? = some y := by simpa using e
        obtain ⟨v, hv, rv⟩ := r.get e'
        have hq : SqL K H a _ := .inl (.inl e3)
        exact ⟨⟨_, v, hq, hv⟩, fun w H' yl => ⟨.inl yl.1, by
          have := yl.2 _ hq
          rw [hv] at this; cases this
          rw [yl.1]; exact rv⟩⟩
    · cases e
theorem it_range {lo : Int} {n : Nat} : ItOk K H1 F1 L1 (Itr lo n) (stR lo n) := by
  refine ⟨fun i H G L M x m e => ?_, fun i H G L M y x m e => ?_⟩
  · unfold stR at e
    split at e
    · cases e
    · exact Nat.le_of_not_lt (by assumption)
  · unfold stR at e
    split at e
    · rename_i hi
      cases e
      exact ⟨hi, fun w H' yl => ⟨.inl yl.1, by rw [yl.2]; exact .int _⟩⟩
    · cases e
theorem it_rangeC {lo k : Int} {n : Nat} : ItOk K H1 F1 L1 (Itc lo k n) (stC lo k n) := by
  refine ⟨fun i H G L M x m e => ?_, fun i H G L M y x m e => ?_⟩
  · unfold stC at e
    split at e
    · cases e
    · exact Nat.le_of_not_lt (by assumption)
  · unfold stC at e
    split at e
    · rename_i hi
      cases e
      exact ⟨hi, fun w H' yl => ⟨.inl yl.1, by rw [yl.2]; exact .int _⟩⟩
    · cases e
theorem it_str {x : Str} : ItOk K H1 F1 L1 (Its x) (fun i _ => some ((x.cps[i]?).map fun c => .str ⟨#[c]⟩)) := by
  refine ⟨fun i H G L M z m e => ?_, fun i H G L M y z m e => ?_⟩
  · have e' : x.cps[i]? = none := by simpa using e
    exact Array.getElem?_eq_none_iff.mp e'
  · simp only [Option.some.injEq, Option.map_eq_some_iff] at e
    obtain ⟨k, e1, e2⟩ := e
    refine ⟨(Array.getElem?_eq_some_iff.mp e1).1, fun w H' yl => ⟨.inl yl.1, ?_⟩⟩
    obtain ⟨h1, k2, e3, e4⟩ := yl
    rw [e1] at e3; cases e3
    subst e4 e2 h1
    exact .str _ (by show 1 ≤ sizeLine; exact one_le_line)
end
/-- a list, a tuple, a text as they are -/
def iVal : D → Mem → Option Stp
  | .p (.list xs), _ => some (stL xs)
  | .p (.tuple xs), _ => some (stL xs)
  | .p (.str x), _ => some fun i _ => some ((x.cps[i]?).map fun c => .str ⟨#[c]⟩)
  | .frz xs, _ => some (stL xs)
  | .obj n, M => match M[n]? with
    | some (.lst _) => some (stO n)
    | _ => none
  | _, _ => none
def ofI (r : Option Stp) (M : Mem) : Res Stp := match r with
  | some r => .ok r M
  | none => .bad
def iE (φ : PFn) : IFn := fun ρ M => (stl (φ ρ M)).bind fun x M1 => ofI (iVal x M1) M1
theorem PI.imp {X : Cx} {tg iter : Expr} {t t' : TI} (h : PI X tg iter t) (i : ∀ σ H R, t' σ H R → t σ H R) : PI X tg iter t' := ⟨fun pins s σ H R I q => h.run pins s σ H R I (i σ H R q)⟩
theorem PI.cases {X : Cx} {tg iter : Expr} {t' : TI} (h : ∀ σ H R, t' σ H R → ∃ t, PI X tg iter t ∧ t σ H R) : PI X tg iter t' := ⟨fun pins s σ H R I q => by
  obtain ⟨t, ht, q'⟩ := h σ H R q
  exact ht.run pins s σ H R I q'⟩
section
variable {X : Cx} {T : Tb} {W : WX} {pos p : Pos} {tg iter e : Expr} {es : List Expr} {φ : PFn} {α : AFn} {ι : IFn}
/-- the readings by the kind of the value -/
theorem id_val (he : PD X T W φ iter) : ID X T W (iE φ) tg iter := PI.cases fun σ H R h => by
  obtain ⟨ρ, G, L, M, sr, h⟩ := h
  unfold iE at h
  generalize er : φ ρ M = r at h
  cases r with
  | bad => exact False.elim h
  | err x M' => exact ⟨iTup X.K (tE X T W φ), pi_tup he, ρ, G, L, M, sr, by rw [er]; exact h⟩
  | ok ev M' =>
    cases ev with
    | new o =>
      cases o with
      | dead => exact False.elim h
      | dct kvs => exact False.elim h
      | lst xs =>
        refine ⟨iList X.K (tE X T W φ), pi_list he, ρ, G, L, M, sr, ?_⟩
        rw [er]
        intro pa ho H' L' hp n m c
        have rr := c.rp m hp
        cases c with
        | lst r0 =>
        refine ⟨pa, rfl, ⟨_, .inl (.inl upd_same)⟩, h _ _ L' (n.trans (Nxt.fresh hp)) (m.fresh hp) ?_⟩
        cases rr with
        | lst h1 h2 h3 => exact it_list (.inl ⟨.inl h1, h2⟩) h3
    | d x =>
      cases x with
      | p d =>
        cases d with
        | list xs =>
          refine ⟨iList X.K (tE X T W φ), pi_list he, ρ, G, L, M, sr, ?_⟩
          rw [er]
          intro v H' L' n m r
          cases r with
          | p r =>
          cases r with
          | lst h1 h2 h3 => exact ⟨_, rfl, ⟨_, .inl (.inl h1)⟩, h _ _ L' n m (it_list (.inl ⟨.inl h1, h2⟩) h3)⟩
        | tuple xs =>
          refine ⟨iTup X.K (tE X T W φ), pi_tup he, ρ, G, L, M, sr, ?_⟩
          rw [er]
          intro v H' L' n m r
          cases r with
          | p r =>
          cases r with
          | tup h1 h2 h3 => exact ⟨_, rfl, ⟨_, .inl h1⟩, h _ _ L' n m (it_tup (vs := []) (.tup h1 h2 h3))⟩
          | tupK h1 h2 h3 h4 h5 h6 => exact ⟨_, rfl, ⟨_, .inr ⟨_, _, _, h1, h2, h3, h4, h5⟩⟩, h _ _ L' n m (it_tup (vs := []) (.tupK h1 h2 h3 h4 h5 h6))⟩
        | str x =>
          refine ⟨iStr (tE X T W φ), pi_str he, ρ, G, L, M, sr, ?_⟩
          rw [er]
          intro v H' L' n m r
          cases r with
          | p r =>
          cases r with
          | str _ hz => exact ⟨x, rfl, h _ _ L' n m it_str⟩
        | none => exact False.elim h
        | bool _ => exact False.elim h
        | int _ => exact False.elim h
        | dict _ => exact False.elim h
      | frz xs =>
        refine ⟨iList X.K (tE X T W φ), pi_list he, ρ, G, L, M, sr, ?_⟩
        rw [er]
        intro v H' L' n m r
        cases r with
        | frz h1 h3 => exact ⟨_, rfl, ⟨_, h1.sq⟩, h _ _ L' n m (it_list h1 h3)⟩
      | obj k =>
        cases e2 : M'[k]? with
        | none => simp [iVal, e2, ofI, PostI] at h
        | some o =>
          cases o with
          | dead => simp [iVal, e2, ofI, PostI] at h
          | dct kvs => simp [iVal, e2, ofI, PostI] at h
          | lst xs =>
            simp only [stl_ok, Ev.stl_d, Res.bind_ok, iVal, e2, ofI] at h
            refine ⟨iList X.K (tE X T W φ), pi_list he, ρ, G, L, M, sr, ?_⟩
            rw [er]
            intro v H' L' n m r
            obtain ⟨a, vs, rfl, h1, h2, h3, h4⟩ := lst_at m r e2
            exact ⟨a, rfl, ⟨vs, .inl (.inl h3)⟩, h _ _ L' n m (it_obj h1)⟩
      | fn id => exact False.elim h
      | ty n => exact False.elim h
/-- range(b), range(a, b), range(a, b, -1) -/
@[irreducible] def smallI (i : Int) : Bool := decide (-(2 ^ 62) ≤ i ∧ i < 2 ^ 62)
theorem smallI_ok {i : Int} (h : smallI i = true) : -(2 ^ 62) ≤ i ∧ i < 2 ^ 62 := by unfold smallI at h; exact of_decide_eq_true h
def rg1 : List D → Option Stp
  | [.p (.int j)] => if smallI j = true then some (stR 0 j.toNat) else none
  | _ => none
def rg2 : List D → Option Stp
  | [.p (.int i), .p (.int j)] => if (smallI i && smallI j) = true then some (stR i (j - i).toNat) else none
  | _ => none
def rg3 : List D → Option Stp
  | [.p (.int i), .p (.int j), .p (.int c)] => if (smallI i && smallI j && decide (c = -1)) = true then some (stC i (-1) (i - j).toNat) else none
  | _ => none
def iRg (k : List D → Option Stp) (α : AFn) : IFn := fun ρ M => (α ρ M).bind fun ds M1 => ofI (k ds) M1
theorem id_range1 {a : Expr} (hg : Gl X "range") (hm : X.mg "range" = none) (hs : starB a = false) (ha : AD X T W α [a]) : ID X T W (iRg rg1 α) tg (.Call (.Name "range" p) [a] [] pos) := PI.imp (pi_range1 hg hm ha (by rw [star_cons hs]; rfl)) fun σ H R h => by
  obtain ⟨ρ, G, L, M, sr, h⟩ := h
  refine ⟨ρ, G, L, M, sr, ?_⟩
  unfold iRg at h
  revert h
  generalize α ρ M = r
  intro h
  cases r with
  | bad => exact h
  | err x M' => exact h
  | ok ds M' =>
    intro vs H' L' n m q
    simp only [Res.bind_ok] at h
    unfold rg1 at h
    split at h
    · split at h
      · rename_i j hj
        cases q with
        | cons q1 q2 =>
        cases q2
        have := q1.int
        subst this
        exact ⟨j, rfl, (smallI_ok hj).1, (smallI_ok hj).2, h _ H' L' n m it_range⟩
      · exact h.elim
    · exact h.elim
theorem id_range2 {a b : Expr} (hg : Gl X "range") (hm : X.mg "range" = none) (hs : starB a = false) (hs2 : starB b = false) (ha : AD X T W α [a, b]) : ID X T W (iRg rg2 α) tg (.Call (.Name "range" p) [a, b] [] pos) := PI.imp (pi_range2 hg hm ha (by rw [star_cons hs, star_cons hs2]; rfl) (by rw [star_cons hs2]; rfl)) fun σ H R h => by
  obtain ⟨ρ, G, L, M, sr, h⟩ := h
  refine ⟨ρ, G, L, M, sr, ?_⟩
  unfold iRg at h
  revert h
  generalize α ρ M = r
  intro h
  cases r with
  | bad => exact h
  | err x M' => exact h
  | ok ds M' =>
    intro vs H' L' n m q
    simp only [Res.bind_ok] at h
    unfold rg2 at h
    split at h
    · split at h
      · rename_i i j hj
        rw [Bool.and_eq_true] at hj
        cases q with
        | cons q1 q2 =>
        cases q2 with
        | cons q2 q3 =>
        cases q3
        have := q1.int
        subst this
        have := q2.int
        subst this
        exact ⟨i, j, rfl, ⟨(smallI_ok hj.1).1, (smallI_ok hj.1).2, (smallI_ok hj.2).1, (smallI_ok hj.2).2⟩, h _ H' L' n m it_range⟩
      · exact h.elim
    · exact h.elim
theorem id_range3 {a b c : Expr} (hg : Gl X "range") (hm : X.mg "range" = none) (hs : starB a = false) (hs2 : starB b = false) (hs3 : starB c = false) (ha : AD X T W α [a, b, c]) : ID X T W (iRg rg3 α) tg (.Call (.Name "range" p) [a, b, c] [] pos) :=
  PI.imp (pi_range3 hg hm ha (star_cons hs) (star_any (by simp [hs2, hs3]))) fun σ H R h => by
  obtain ⟨ρ, G, L, M, sr, h⟩ := h
  refine ⟨ρ, G, L, M, sr, ?_⟩
  unfold iRg at h
  revert h
  generalize α ρ M = r
  intro h
  cases r with
  | bad => exact h
  | err x M' => exact h
  | ok ds M' =>
    intro vs H' L' n m q
    simp only [Res.bind_ok] at h
    unfold rg3 at h
    split at h
    · split at h
      · rename_i i j k hj
        rw [Bool.and_eq_true, Bool.and_eq_true, decide_eq_true_eq] at hj
        obtain ⟨⟨j1, j2⟩, rfl⟩ := hj
        cases q with
        | cons q1 q2 =>
        cases q2 with
        | cons q2 q3 =>
        cases q3 with
        | cons q3 q4 =>
        cases q4
        have := q1.int
        subst this
        have := q2.int
        subst this
        have := q3.int
        subst this
        exact ⟨i, j, -1, _, rfl, RgC.neg (smallI_ok j1).1 (smallI_ok j1).2 (smallI_ok j2).1 (smallI_ok j2).2, h _ H' L' n m it_rangeC⟩
      · exact h.elim
    · exact h.elim
end
end Cb

set_option Elab.async false
set_option linter.all false
set_option maxRecDepth 100000
/-! Cb, part I: list comprehensions. -/
namespace Cb
open PySem PySem.Spec PyProof.Rows L2

/-! ### a thing put out of sight -/
def era (p : Addr) (H : Hp) : Hp := fun a => if a = p then none else H a
theorem era_ne {p a : Addr} {H : Hp} (h : a ≠ p) : era p H a = H a := by unfold era; rw [if_neg h]
theorem era_same {p : Addr} {H : Hp} : era p H p = none := by unfold era; rw [if_pos rfl]
theorem era_some {p a : Addr} {H : Hp} {o : HO} (h : era p H a = some o) : a ≠ p ∧ H a = some o := by
  unfold era at h
  split at h
  · cases h
  · exact ⟨by assumption, h⟩
theorem era_upd {p : Addr} {H : Hp} {o : HO} (h : H p = some o) : upd (era p H) p o = H := by
  funext a
  by_cases e : a = p
  · subst e; rw [upd_same, h]
  · rw [upd_ne e, era_ne e]
theorem era_of_upd {p : Addr} {H : Hp} {o : HO} : era p (upd H p o) = era p H := by
  funext a
  by_cases e : a = p
  · subst e; rw [era_same, era_same]
  · rw [era_ne e, era_ne e, upd_ne e]
theorem era_none {p : Addr} {H : Hp} (h : H p = none) : era p H = H := by
  funext a
  by_cases e : a = p
  · subst e; rw [era_same, h]
  · rw [era_ne e]
abbrev GP (G : Addr → Prop) (p : Addr) : Addr → Prop := fun a => G a ∨ a = p
section
variable {K : PySem.W.Frag} {T : Tb} {H H' : Hp} {G G' : Addr → Prop} {L L' : List Addr} {M M' : Mem} {p : Addr}
theorem Nxt.era (x : Nxt H L M H' L' M') : Nxt (era p H) L M (era p H') L' M' :=
  ⟨x.pre, fun a o h n => by
    obtain ⟨h1, h2⟩ := era_some h
    rw [era_ne h1]; exact x.keep a o h2 n, fun a h => (x.new a h).elim .inl fun q => .inr (by
    unfold Cb.era
    split
    · rfl
    · exact q)⟩
theorem keeps_out : Keeps H (Fbd L M (GP G p)) (era p H) (Fbd L M G) := ⟨fun a o h n => by
  have ne : a ≠ p := fun e => n (.inr (.inr e))
  exact ⟨by rw [era_ne ne]; exact h, fun z => n (z.elim .inl fun g => .inr (.inl g))⟩⟩
theorem keeps_in : Keeps (era p H) (Fbd L M G) H (Fbd L M (GP G p)) := ⟨fun a o h n => by
  obtain ⟨h1, h2⟩ := era_some h
  exact ⟨h2, fun z => z.elim (fun q => n (.inl q)) fun g => g.elim (fun q => n (.inr q)) h1⟩⟩
theorem MR.out (m : MR K H (GP G p) L M) (hg : ¬ G p) : MR K (era p H) G L M := by
  refine ⟨m.len, m.nd, fun a h => ?_, fun a h g => m.ng a h (.inl g), fun a h => ?_, fun n a o h1 h2 h3 => ?_⟩
  · have ne : a ≠ p := fun e => m.ng a h (.inr e)
    rw [era_ne ne]; exact m.tr a h
  · have ne : a ≠ p := fun e => hg (e ▸ h)
    rw [era_ne ne]; exact m.tg a (.inl h)
  · obtain ⟨ho, e, c⟩ := m.at_ n a o h1 h2 h3
    have ne : a ≠ p := fun e => m.ng a (List.mem_of_getElem? h1) (.inr e)
    exact ⟨ho, by rw [era_ne ne]; exact e, c.ext keeps_out⟩
/-- the hidden thing changes -/
theorem keeps_hid {ho : HO} (hg : G p) : Keeps H (Fbd L M G) (upd H p ho) (Fbd L M G) := ⟨fun a o h n => ⟨by rw [upd_ne (fun e => n (.inr (by rw [e]; exact hg)))]; exact h, n⟩⟩
theorem MR.hid {ho : HO} (m : MR K H G L M) (hg : G p) : MR K (upd H p ho) G L M := by
  refine ⟨m.len, m.nd, fun a h => ?_, m.ng, fun a h => ?_, fun n a o h1 h2 h3 => ?_⟩
  · rw [upd_ne (fun e => m.ng a h (by rw [e]; exact hg))]; exact m.tr a h
  · by_cases e : a = p
    · rw [e, upd_same]; exact fun z => nomatch z
    · rw [upd_ne e]; exact m.tg a h
  · obtain ⟨ho', e, c⟩ := m.at_ n a o h1 h2 h3
    exact ⟨ho', by rw [upd_ne (fun e => m.ng a (List.mem_of_getElem? h1) (by rw [e]; exact hg))]; exact e, c.ext (keeps_hid hg)⟩
theorem Nxt.hid_keep (x : Nxt H L M H' L' M') (m : MR K H G L M) (hg : G p) {o : HO} (h : H p = some o) : H' p = some o := x.keep p o h fun z => m.ng p z.mem hg
theorem RD.extE (x : Ext H (Fbd L M G) L H' (Fbd L' M' G') L') {v : V} {d : D} (h : RD K T H G L M v d) : RD K T H' G' L' M' v d := by
  cases h with
  | p h => exact .p (Rp.ext x.1 _ _ h)
  | obj h => exact .obj (x.2 _ _ h)
  | fn id => exact .fn id
  | ty n => exact .ty n
  | frz h r => exact .frz (h.ext x.1) (RpAll.ext x.1 _ _ r)
theorem SR.extE {σ : L2.St} {ρ : Env} (s : SR K T σ H ρ G L M) (x : Ext H (Fbd L M G) L H' (Fbd L' M' G') L') (m : MR K H' G' L' M') : SR K T σ H' ρ G' L' M' :=
  ⟨m, s.len, fun i d h => let ⟨v, h1, h2⟩ := s.env i d h; ⟨v, h1, h2.extE x⟩⟩
end
def wipeE (ρ : Env) : List Nat → Env
  | [] => ρ
  | v :: vs => (wipeE ρ vs).set v none
@[simp] theorem wipeE_nil (ρ : Env) : wipeE ρ [] = ρ := rfl
@[simp] theorem wipeE_cons (ρ : Env) (v : Nat) (vs : List Nat) : wipeE ρ (v :: vs) = (wipeE ρ vs).set v none := rfl
theorem wipe_get {σ : L2.St} {i : Nat} : ∀ {vs : List Nat}, (wipe σ vs)[i]? = if i ∈ vs then (if i < σ.length then some none else none) else σ[i]?
  | [] => by simp [wipe]
  | v :: vs => by
    unfold wipe
    by_cases hi : v = i
    · subst hi
      simp only [List.mem_cons, true_or, if_true]
      by_cases hl : v < σ.length
      · rw [if_pos hl, List.getElem?_set_self (by rw [wipe_length]; exact hl)]
      · rw [if_neg hl, List.getElem?_eq_none (by rw [List.length_set, wipe_length]; omega)]
    · rw [List.getElem?_set_ne hi, wipe_get]
      have : (i ∈ v :: vs) ↔ i ∈ vs := by
        rw [List.mem_cons]
        exact ⟨fun h => h.elim (fun e => absurd e.symm hi) id, .inr⟩
      simp only [this]
theorem wipeE_get {ρ : Env} {i : Nat} : ∀ {vs : List Nat} {x : D}, (wipeE ρ vs)[i]? = some (some x) → ρ[i]? = some (some x) ∧ i ∉ vs
  | [], x, h => ⟨h, by simp⟩
  | v :: vs, x, h => by
    rw [wipeE_cons] at h
    by_cases hi : v = i
    · subst hi
      by_cases hl : v < (wipeE ρ vs).length
      · rw [List.getElem?_set_self hl] at h; cases h
      · rw [List.getElem?_eq_none (by simpa using hl)] at h; cases h
    · rw [List.getElem?_set_ne hi] at h
      obtain ⟨h1, h2⟩ := wipeE_get h
      exact ⟨h1, by simp only [List.mem_cons, not_or]; exact ⟨fun e => hi e.symm, h2⟩⟩
theorem wipeE_length (ρ : Env) : ∀ vs : List Nat, (wipeE ρ vs).length = ρ.length
  | [] => rfl
  | v :: vs => by rw [wipeE_cons, List.length_set, wipeE_length ρ vs]
theorem wipe_agr {σ σ' : L2.St} {vs : List Nat} (a : Agr vs (wipe σ vs) σ') : wipe σ' vs = wipe σ vs := by
  apply List.ext_getElem?
  intro i
  have hl : σ'.length = σ.length := a.1.trans (wipe_length σ vs)
  rw [wipe_get, wipe_get]
  by_cases hi : i ∈ vs
  · rw [if_pos hi, if_pos hi, hl]
  · rw [if_neg hi, if_neg hi]
    have := a.2 i hi
    rw [wipe_get, if_neg hi] at this
    exact this
theorem SR.wipe {K : PySem.W.Frag} {T : Tb} {H : Hp} {G : Addr → Prop} {L : List Addr} {M : Mem} {σ : L2.St} {ρ : Env} (s : SR K T σ H ρ G L M) (vs : List Nat) : SR K T (L2.wipe σ vs) H (wipeE ρ vs) G L M := by
  refine ⟨s.mr, by rw [wipe_length, wipeE_length, s.len], fun i x h => ?_⟩
  obtain ⟨h1, h2⟩ := wipeE_get h
  obtain ⟨v, h3, h4⟩ := s.env i x h1
  exact ⟨v, by rw [wipe_get, if_neg h2]; exact h3, h4⟩

/-- no exception may leave -/
def ne {α : Type} : Res α → Res α
  | .ok a M => .ok a M
  | _ => .bad
@[simp] theorem ne_ok {α : Type} (a : α) (M : Mem) : ne (.ok a M) = .ok a M := rfl
@[simp] theorem ne_err {α : Type} (x : Xc) (M : Mem) : ne (.err x M : Res α) = .bad := rfl
@[simp] theorem ne_bad {α : Type} : ne (.bad : Res α) = .bad := rfl
def lcL (step : Stp) (γ : GFn) (t : TFn) (φ : PFn) (vs : List Nat) : Nat → Nat → List P → Env → Mem → Res Ev
  | 0, _, _, _, _ => .bad
  | f + 1, i, acc, ρ, M => match step i M with
    | none => .bad
    | some none => .ok (.new (.lst acc)) M
    | some (some x) => match γ x (wipeE ρ vs) with
      | none => .bad
      | some ρ1 => (ne (t ρ1 M)).bind fun b M1 => if b = true then (ne (stl (φ ρ1 M1))).bind fun d M2 => match pur d M2 with
            | some (y, M3) => if acc.length < sizeLine then lcL step γ t φ vs f (i + 1) (acc ++ [y]) ρ M3 else .bad
            | none => .bad
          else lcL step γ t φ vs f (i + 1) acc ρ M1
def eLc (ι : IFn) (γ : GFn) (t : TFn) (φ : PFn) (vs : List Nat) : PFn := fun ρ M => (ι ρ M).bind fun st M1 => lcL st γ t φ vs FUEL 0 [] ρ M1
def tTrue : TFn := fun _ M => .ok true M
def Wn : WX := fun _ _ _ _ => False
theorem Post.of {K : PySem.W.Frag} {T : Tb} {H : Hp} {G : Addr → Prop} {L : List Addr} {M : Mem} {r : Res Ev} {Q : VK} {E : XK} (hb : ne (stl r) ≠ .bad) (h : ∀ d M' v H' L', stl r = .ok d M' → Nxt H L M H' L' M' → MR K H' G L' M' → RD K T H' G L' M' v d → Q v H') : Post K T H G L M r Q E := by
  cases r with
  | ok e M' =>
    cases e with
    | d y => exact fun v H' L' n m q => h y M' v H' L' rfl n m q
    | new o =>
      intro p ho H' L' hp n m c
      exact h (.p o.toP) M' _ _ L' rfl (n.trans (Nxt.fresh hp)) (m.fresh hp) (.p (c.rp m hp))
  | err y M' => exact absurd rfl hb
  | bad => exact absurd rfl hb
section
variable {X : Cx} {T : Tb} {W : WX} {U : List Nat} {ι : IFn} {γ : GFn} {t : TFn} {φ : PFn} {vs : List Nat}
theorem PostI.bind {K : PySem.W.Frag} {H : Hp} {G : Addr → Prop} {L : List Addr} {M : Mem} {r : Res Stp} {k : Stp → Mem → Res Ev} {Q : VK} {E : XK} (h : Post K T H G L M (r.bind k) Q E) :
    PostI K T H G L M r (fun J H1 => ∃ st L1 M1, Nxt H L M H1 L1 M1 ∧ MR K H1 G L1 M1 ∧ ItOk K H1 (Fbd L1 M1 G) L1 J st ∧ Post K T H1 G L1 M1 (k st M1) Q E) E := by
  cases r with
  | ok st M' => exact fun J H' L' n m q => ⟨st, L', M', n, m, q, h.start n⟩
  | err y M' => exact h
  | bad => exact h
theorem lc_go {σ : L2.St} {H : Hp} {Q : VK} (h : tE X T W (eLc ι γ t φ vs) σ H Q) : tLc (tI X T W ι) (tG X T vs γ) (tT X T Wn t) (tE X T Wn φ) vs σ H Q := by
  obtain ⟨ρ, G, L, M, sr, h⟩ := h
  refine ⟨ρ, G, L, M, sr, ?_⟩
  have h1 := PostI.bind h
  revert h1
  generalize ι ρ M = r
  intro h1
  cases r with
  | bad => exact h1
  | err x M' => exact h1
  | ok st0 M0 =>
    intro J H1 L0 n0 m0 io0 D hD
    obtain ⟨st, L1, M1, n1, m1, io, h2⟩ := h1 J H1 L0 n0 m0 io0
    have s1 := sr.ext n1 m1
    have hGD : ¬ G D := fun g => m1.tg D g hD
    refine ⟨fun i f H' => ∃ Ls Ms acc accV, H' D = some (.lst accV) ∧ RpAll X.K H' (Fbd Ls Ms (GP G D)) accV acc ∧ MR X.K H' (GP G D) Ls Ms ∧ Nxt H1 L1 M1 (era D H') Ls Ms ∧
      Post X.K T (era D H') G Ls Ms (lcL st γ t φ vs f i acc ρ Ms) Q (fun cls d H' => W cls d σ H'), ⟨FUEL, L1, M1, [], [], upd_same, .nil, m1.hide hD, ?_, ?_⟩, ?_⟩
    · rw [era_of_upd, era_none hD]; exact Nxt.refl
    · rw [era_of_upd, era_none hD]; exact h2
    rintro i f H' ⟨Ls, Ms, acc, accV, hDH, ra, ms, ns, p⟩
    have ex : Ext H1 (Fbd L1 M1 G) L1 H' (Fbd Ls Ms (GP G D)) Ls := ns.ext.trans ⟨keeps_in, fun _ _ z => z⟩
    cases f with
    | zero => exact False.elim p
    | succ f =>
      unfold lcL at p
      split at p
      · exact False.elim p
      · rename_i e
        refine .inl ⟨io.stop i H' _ Ls Ms ex ms e, ?_⟩
        have := p D (.lst accV) (era D H') Ls era_same Nxt.refl (ms.out hGD) (.lst (RpAll.ext keeps_out _ _ ra))
        rw [era_upd hDH] at this
        exact this
      · rename_i x e
        obtain ⟨go, yl⟩ := io.go i H' _ Ls Ms x ex ms e
        split at p
        · exact False.elim p
        · rename_i ρ1 eγ
          -- what a turn is to reach
          refine .inr ⟨go, fun H3 => ∃ Ls Ms acc accV, H3 D = some (.lst accV) ∧ RpAll X.K H3 (Fbd Ls Ms (GP G D)) accV acc ∧ MR X.K H3 (GP G D) Ls Ms ∧ Nxt H1 L1 M1 (era D H3) Ls Ms ∧
            Post X.K T (era D H3) G Ls Ms (lcL st γ t φ vs f (i + 1) acc ρ Ms) Q (fun cls d H' => W cls d σ H'), fun H3 w => ⟨f, Nat.lt_succ_self _, w⟩, fun v H2 y => ?_⟩
          obtain ⟨hH, rx⟩ := yl v H2 y
          have n2 : Nxt H' Ls Ms H2 Ls Ms := by
            rcases hH with rfl | ⟨pa, ho', hp, rfl⟩
            · exact Nxt.refl
            · exact Nxt.fresh hp
          have m2 : MR X.K H2 (GP G D) Ls Ms := by
            rcases hH with rfl | ⟨pa, ho', hp, rfl⟩
            · exact ms
            · exact ms.fresh hp
          have hD2 : H2 D = some (.lst accV) := n2.hid_keep ms (.inr rfl) hDH
          have sB : SR X.K T (wipe σ vs) H2 (wipeE ρ vs) (GP G D) Ls Ms := (s1.extE (ex.trans n2.ext) m2).wipe vs
          refine ⟨wipeE ρ vs, ρ1, GP G D, Ls, Ms, x, sB, rx, eγ, fun σ2 s2 a2 => ⟨wipe_agr a2, ρ1, GP G D, Ls, Ms, s2, ?_⟩⟩
          revert p
          generalize t ρ1 Ms = rt
          intro p
          cases rt with
          | bad => exact False.elim p
          | err z Mz => exact False.elim p
          | ok b M3 =>
            simp only [ne_ok, Res.bind_ok] at p
            intro H3 L3 n3 m3
            have n23 := n2.trans n3
            have hD3 : H3 D = some (.lst accV) := n3.hid_keep m2 (.inr rfl) hD2
            have ra3 := RpAll.ext n23.keeps _ _ ra
            have ne3 : Nxt (era D H') Ls Ms (era D H3) L3 M3 := n23.era
            cases b with
            | false => exact ⟨L3, M3, acc, accV, hD3, ra3, m3, ns.trans ne3, Post.start ne3 p⟩
            | true =>
              simp only [if_true] at p
              refine ⟨ρ1, GP G D, L3, M3, s2.ext n3 m3, Post.of (fun eb => ?_) fun d M4 w H4 L4 es n4 m4 rw4 => ?_⟩
              · rw [eb] at p; exact False.elim p
              · rw [es] at p
                simp only [ne_ok, Res.bind_ok] at p
                split at p
                · rename_i y' M5 ep
                  split at p
                  · rename_i hz
                    obtain ⟨n5, m5, q5⟩ := pur_ok m4 rw4 ep
                    have n45 := n4.trans n5
                    have hD4 : H4 D = some (.lst accV) := n4.hid_keep m3 (.inr rfl) hD3
                    have ra5 := RpAll.ext n45.keeps _ _ ra3
                    have ne5 : Nxt (era D H') Ls Ms (era D (upd H4 D (.lst (accV ++ [w])))) L4 M5 := by
                      rw [era_of_upd]; exact ne3.trans n45.era
                    refine ⟨accV, hD4, by rw [ra5.length]; exact hz, L4, M5, acc ++ [y'], accV ++ [w], upd_same, ?_, m5.hid (.inr rfl), ns.trans ne5, Post.start ne5 p⟩
                    exact RpAll.ext (keeps_hid (.inr rfl)) _ _ (ra5.append (.cons q5 .nil))
                  · exact False.elim p
                · exact False.elim p
end
section
variable {X : Cx} {T : Tb} {W : WX} {U : List Nat} {ι : IFn} {γ : GFn} {t : TFn} {φ : PFn} {elt tg iter c0 : Expr} {ifs : List Expr} {scope : Scope} {own : List (Str × Nat)} {pos spos : Pos}
theorem ptsd_nil : PTs X [] (tT X T Wn tTrue) := ⟨fun pins s σ H Q I h => by
  obtain ⟨ρ, G, L, M, sr, h⟩ := h
  exact pts_nil.run pins s σ H Q I (h H L Nxt.refl sr.mr)⟩
theorem pd_lc (c : XOk X) (hi : ID X T W ι tg iter) (ok : BlkOk X.N X.env.scope scope own)
    (hg : ∀ (s : Shared) (H : Hp) (C : Addr) (cl : List (Str × Addr)) (fp : List Addr), GD (X.blk s H scope (compEnvC scope cl C X.env) fp) T (own.map (·.2)) γ tg)
    (ht : ∀ (s : Shared) (H : Hp) (C : Addr) (cl : List (Str × Addr)) (fp : List Addr), PTs (X.blk s H scope (compEnvC scope cl C X.env) fp) ifs (tT X T Wn t))
    (he : ∀ (s : Shared) (H : Hp) (C : Addr) (cl : List (Str × Addr)) (fp : List Addr), PD (X.blk s H scope (compEnvC scope cl C X.env) fp) T Wn φ elt) (hs : ∀ x, foldedSetIterable iter X.env x = pure x) :
    PD X T W (eLc ι γ t φ (own.map (·.2))) (.ListComp elt [⟨tg, iter, ifs, 0⟩] scope pos) :=
  PE.imp (pe_lc (g := tG X T (own.map fun p : Str × Nat => p.2) γ) (tt := tT X T Wn t) (te := tE X T Wn φ) c.calm c.nd hi ok hg ht he hs) fun σ H Q h => lc_go h
theorem sd_setLc {i : Nat} {y : Str} {py : Pos} {ψ : PFn} (c : XOk X) (hu : i ∈ U) (hψ : ψ = eLc ι γ t φ (own.map (·.2)) ∨ ψ = eAl (eLc ι γ t φ (own.map (·.2)))) (hy : X.N[i]? = some y) (hyl : X.env.scope.names.lookup y = some .local)
    (hsw : swapsWith (.ListComp elt [⟨tg, iter, ifs, 0⟩] scope pos) (some (.Name y py)) spos.line X.env = pure true) (hi : ID X T W ι tg iter) (ok : BlkOk X.N X.env.scope scope own)
    (hg : ∀ (s : Shared) (H : Hp) (C : Addr) (cl : List (Str × Addr)) (fp : List Addr), GD (X.blk s H scope (compEnvC scope cl C X.env) fp) T (own.map (·.2)) γ tg)
    (ht : ∀ (s : Shared) (H : Hp) (C : Addr) (cl : List (Str × Addr)) (fp : List Addr), PTs (X.blk s H scope (compEnvC scope cl C X.env) fp) ifs (tT X T Wn t))
    (he : ∀ (s : Shared) (H : Hp) (C : Addr) (cl : List (Str × Addr)) (fp : List Addr), PD (X.blk s H scope (compEnvC scope cl C X.env) fp) T Wn φ elt) (hs : ∀ x, foldedSetIterable iter X.env x = pure x) :
    SD X T W U (sSet i ψ) (.Assign [.Name y py] (.ListComp elt [⟨tg, iter, ifs, 0⟩] scope pos) spos) :=
  PS.imp' (ps_setLc (g := tG X T (own.map fun p : Str × Nat => p.2) γ) (tt := tT X T Wn t) (te := tE X T Wn φ) c.calm c.nd hy hyl hsw hi ok hg ht he hs) fun D σ H h => by
    obtain ⟨ρ, G, L, M, sr, h⟩ := h
    have h2 := set_go hu sr h
    rcases hψ with rfl | rfl
    · exact lc_go ⟨ρ, G, L, M, sr, h2⟩
    · exact lc_go ⟨ρ, G, L, M, sr, Post.alloc h2⟩
end
end Cb

set_option Elab.async false
set_option linter.all false
set_option maxRecDepth 100000
/-! Cb, part J: defs and their calls. -/
namespace Cb
open PySem PySem.Spec PyProof.Rows L2

/-- the program's surroundings -/
structure Wd where
  P : Program
  w : World
  K : PySem.W.Frag
  mg : Str → Option Value
  base : Heap
  T : Tb
structure RoomG (k : Nat) (A : Around) : Prop where
  room : Room k A
  g : A.guards = some []
theorem RoomG.deeper {k : Nat} {A : Around} (r : RoomG (k + 1) A) (env : PySem.Env) : RoomG k (A.deeper env) := ⟨r.room.deeper env, r.g⟩
/-- a context of that program; k: how deep calls may go -/
structure Gd (Z : Wd) (k : Nat) (N : List Str) (sc : Scope) (X : Cx) (W : WX) : Prop where
  hP : X.prog = Z.P
  hw : X.w = Z.w
  hK : X.K = Z.K
  hm : X.mg = Z.mg
  hb : X.base = Z.base
  hN : X.N = N
  hs : X.env.scope = sc
  ok : XOk X
  room : RoomG k X.A
  takes : Takes X W
/-- .. where statements run -/
structure Gs (Z : Wd) (k : Nat) (N : List Str) (sc : Scope) (X : Cx) (W : WX) : Prop extends Gd Z k N sc X W where
  pass : PassesOwn (model X.prog X.w) X.A X.env X.xe
  fn : ∀ x, X.fn x = true
  stk : X.stack = X.env :: X.outer
  frm : X.env.frame = some X.env.locals
  ex : X.ex = []
  kind : X.env.scope.kind = .function

/-- a def's promise -/
def FnG (Z : Wd) (k : Nat) (f : Addr) (fd : FuncData) (ps : List Str) (fs : FS) : Prop :=
  ∀ (A : Around) (outer : List PySem.Env) (s : Shared) (H : Hp) (args : Args) (vs : List V) (us : List Value) (ds : List D) (G : Addr → Prop) (L : List Addr) (M : Mem) (Q : VK) (E : XK), RoomG k A → Env0 Z.P Z.w Z.K Z.mg Z.base A outer s H → BindsTo s fd args (ps.zip us) → Vals vs us → vs.length = ps.length →
    MR Z.K H G L M → RDs Z.K Z.T H G L M vs ds → Post Z.K Z.T H G L M (fs ds M) Q E → codeAny (model Z.P Z.w) A (.call (.ref f) args) (CR (L2.CX Z.P Z.w) outer Z.P Z.w H s Q E) s
def startE (n : Nat) (ds : List D) : Env := ds.map some ++ List.replicate (n - ds.length) none
/-- a body's end as the def's -/
def fin (n : Nat) : Res Out → Res Ev
  | .ok (.nx _) M => .ok (.d (.p .none)) (M.take n)
  | .ok (.rt (.d (.obj j))) M => if j < n then .ok (.d (.obj j)) (M.take n) else match M[j]? with
    | some (.lst xs) => .ok (.new (.lst xs)) (M.take n)
    | some (.dct kvs) => .ok (.new (.dct kvs)) (M.take n)
    | _ => .bad
  | .ok (.rt (.d x)) M => .ok (.d x) (M.take n)
  | .ok (.rt (.new o)) M => .ok (.new o) (M.take n)
  | .err x M => .err x (M.take n)
  | _ => .bad
def defF (n : Nat) (φ : SFn) : FS := fun ds M => fin M.length (φ (startE n ds) M)
section
variable {K : PySem.W.Frag} {T : Tb} {H H' : Hp} {G : Addr → Prop} {L L' : List Addr} {M M' : Mem} {σ : L2.St} {U : List Nat} {Q : VK} {E : XK}
theorem keepsTo (x : Nxt H L M H' L' M') (hl : L.length = M.length) : Keeps H' (Fbd L' M' G) H' (Fbd L (M'.take M.length) G) := by
  obtain ⟨R, e⟩ := x.pre
  have := keeps_take (H := H') (G := G) (L := L') (M := M') (k := M.length)
  rw [e, List.take_append_of_le_length (by omega), ← hl, List.take_length] at this
  rw [← hl, e]; exact this
theorem XR.ext {H H' : Hp} {F F' : Addr → Prop} (k : Keeps H F H' F') {x : Xc} {cls : Value} {d : Option Addr} (h : XR K T H F x cls d) : XR K T H' F' x cls d := by
  obtain ⟨h1, h2⟩ := h
  refine ⟨h1, ?_⟩
  split at h2
  · exact h2
  · obtain ⟨b, us, e1, e2, e3, e4⟩ := h2
    exact ⟨b, us, e1, (k.keep b _ e2 e3).1, (k.keep b _ e2 e3).2, Paired.mapP e4 fun _ _ r => ⟨r.1, Rp.ext k _ _ r.2⟩⟩
theorem RD.takeTo (x : Nxt H L M H' L' M') (hl : L.length = M.length) {v : V} {d : D} (hd : ∀ j, d = .obj j → j < M.length) (r : RD K T H' G L' M' v d) : RD K T H' G L (M'.take M.length) v d := by
  cases r with
  | p h => exact .p (Rp.ext (keepsTo x hl) _ _ h)
  | @obj j a h =>
    obtain ⟨R, e⟩ := x.pre
    have hj := hd j rfl
    rw [e, List.getElem?_append_left (by omega)] at h
    exact .obj h
  | fn id => exact .fn id
  | ty n => exact .ty n
  | frz h r => exact .frz (h.ext (keepsTo x hl)) (RpAll.ext (keepsTo x hl) _ _ r)
/-- an object made within the call is handed out as a new thing -/
theorem out_new (x : Nxt H L M H' L' M') (m0 : MR K H G L M) (m : MR K H' G L' M') {j : Nat} {a : Addr} {o : MObj} (ha : L'[j]? = some a) (hj : M.length ≤ j) (hm : M'[j]? = some o) (ho : o.alive = true) :
    ∃ hob, H' a = some hob ∧ era a H' a = none ∧ Nxt H L M (era a H') L (M'.take M.length) ∧ MR K (era a H') G L (M'.take M.length) ∧ MC K (era a H') (Fbd L (M'.take M.length) G) hob o := by
  obtain ⟨hob, e, c⟩ := m.at_ j a o ha hm ho
  have lv : Lv L' M' a := ⟨j, o, ha, hm, ho⟩
  have hnL : a ∉ L := fun hmem => by
    obtain ⟨i, hi⟩ := List.mem_iff_getElem?.mp hmem
    have := nodup_get m.nd ha (x.get hi)
    have := (List.getElem?_eq_some_iff.mp hi).1
    have := m0.len
    omega
  have hHa : H a = none := by
    rcases x.new a lv with q | q
    · exact absurd q.mem hnL
    · exact q
  have xt := x.take m0.len
  have mt := MR.takeTo x m0.len m
  have kt : Keeps H' (Fbd L' M' G) (era a H') (Fbd L (M'.take M.length) G) := ⟨fun b ob h n => by
    have ne : b ≠ a := fun e => n (.inl (by rw [e]; exact lv))
    obtain ⟨h1, h2⟩ := (keepsTo x m0.len).keep b ob h n
    exact ⟨by rw [era_ne ne]; exact h1, h2⟩⟩
  refine ⟨hob, e, era_same, ⟨xt.pre, fun b ob h n => ?_, xt.new⟩, ?_, c.ext kt⟩
  · have ne : b ≠ a := fun e => by rw [e, hHa] at h; cases h
    rw [era_ne ne]; exact xt.keep b ob h n
  · refine ⟨mt.len, mt.nd, fun b h => ?_, mt.ng, fun b h => ?_, fun n b ob h1 h2 h3 => ?_⟩
    · have ne : b ≠ a := fun e => hnL (by rw [← e]; exact h)
      rw [era_ne ne]; exact mt.tr b h
    · have ne : b ≠ a := fun e => m.ng a (List.mem_of_getElem? ha) (by rw [← e]; exact h)
      rw [era_ne ne]; exact mt.tg b h
    · have ne : b ≠ a := fun e => hnL (by rw [← e]; exact List.mem_of_getElem? h1)
      have hn : n < M.length := by rw [← m0.len]; exact (List.getElem?_eq_some_iff.mp h1).1
      rw [List.getElem?_take_of_lt hn] at h2
      obtain ⟨hb', e1, c1⟩ := m.at_ n b ob (x.get h1) h2 h3
      exact ⟨hb', by rw [era_ne ne]; exact e1, c1.ext kt⟩
theorem fin_post {r : Res Out} (m0 : MR K H G L M) (h : Post K T H G L M (fin M.length r) Q E) : PostS K T U σ H G L M r { nx := fun _ H' => Q .non H', rt := Q } (fun cls d _ H' => E cls d H') := by
  cases r with
  | bad => exact h
  | err x M' => exact fun cls d σ' H' L' n m q _ => h cls d H' L (n.take m0.len) (MR.takeTo n m0.len m) (q.ext (keepsTo n m0.len))
  | ok o M' =>
    cases o with
    | nx ρ => exact fun σ' H' L' n s _ => h .non H' L (n.take m0.len) (MR.takeTo n m0.len s.mr) (.p .non)
    | bk ρ => exact h.elim
    | ct ρ => exact h.elim
    | rt e =>
      cases e with
      | new o => exact fun p ho H' L' hp n m c => h p ho H' L hp (n.take m0.len) (MR.takeTo n m0.len m) (c.ext (keepsTo n m0.len))
      | d x =>
        have easy : (∀ j, x = .obj j → j < M.length) → Post K T H G L M (.ok (.d x) (M'.take M.length)) Q E → Post K T H G L M (.ok (.d x) M') Q never := fun hd h v H' L' n m r => h v H' L (n.take m0.len) (MR.takeTo n m0.len m) (r.takeTo n m0.len hd)
        cases x with
        | p d => exact easy (fun j e => by cases e) h
        | fn d => exact easy (fun j e => by cases e) h
        | ty d => exact easy (fun j e => by cases e) h
        | frz d => exact easy (fun j e => by cases e) h
        | obj j =>
          by_cases hj : j < M.length
          · simp only [fin, if_pos hj] at h
            exact easy (fun i e => by cases e; exact hj) h
          · simp only [fin, if_neg hj] at h
            have hj' : M.length ≤ j := Nat.le_of_not_lt hj
            split at h
            · rename_i xs e
              intro v H' L' n m r
              cases r with
              | obj ha =>
                obtain ⟨hob, e1, e2, n2, m2, c2⟩ := out_new n m0 m ha hj' e rfl
                have := h _ hob _ L e2 n2 m2 c2
                rw [era_upd e1] at this
                exact this
            · rename_i xs e
              intro v H' L' n m r
              cases r with
              | obj ha =>
                obtain ⟨hob, e1, e2, n2, m2, c2⟩ := out_new n m0 m ha hj' e rfl
                have := h _ hob _ L e2 n2 m2 c2
                rw [era_upd e1] at this
                exact this
            · exact h.elim
end
theorem sr_start {K : PySem.W.Frag} {T : Tb} {H : Hp} {G : Addr → Prop} {L : List Addr} {M : Mem} {N : List Str} {vs : List V} {ds : List D} (m : MR K H G L M) (r : RDs K T H G L M vs ds) : SR K T (L2.start N vs) H (startE N.length ds) G L M := by
  have hl : vs.length = ds.length := r.length
  refine ⟨m, by unfold startE L2.start; simp [hl], fun i x h => ?_⟩
  unfold startE at h
  by_cases hi : i < ds.length
  · rw [List.getElem?_append_left (by simpa using hi), List.getElem?_map] at h
    cases e : ds[i]? with
    | none => rw [e] at h; cases h
    | some d =>
      rw [e] at h
      cases h
      have hv : i < vs.length := by omega
      obtain ⟨v, h1, h2⟩ : ∃ v, vs[i]? = some v ∧ RD K T H G L M v x := by
        clear hl hi hv
        induction r generalizing i with
        | nil => simp at e
        | @cons a b as bs ha has ih =>
          cases i with
          | zero => simp at e; subst e; exact ⟨_, rfl, ha⟩
          | succ i =>
            obtain ⟨v, q1, q2⟩ := ih (i := i) (by simpa using e)
            exact ⟨v, by simpa using q1, q2⟩
      refine ⟨v, ?_, h2⟩
      unfold L2.start
      rw [List.getElem?_append_left (by simpa using hv), List.getElem?_map, h1]
      rfl
  · rw [List.getElem?_append_right (by simpa using hi), List.getElem?_replicate] at h
    split at h <;> cases h
abbrev WE (E : XK) : WX := fun cls d _ H => E cls d H
section
variable {Z : Wd} {k : Nat} {f : Addr} {name qual : Str} {params : Arguments} {body : List Stmt} {scope : Scope} {dV kV doc pm cdv ct oc : Value} {an od : Option Addr} {osl : Array (Option Value)} {N ps : List Str} {φ : SFn} {U : List Nat}
/-- a def keeps its promise -/
theorem fng_of (lk : Z.K.lookup f = some ⟨oc, od, .func (PySem.W.fnOf name qual params body scope dV kV doc pm an cdv ct), osl⟩) (hcd : PySem.W.codeIn Z.K cdv qual = true) (S : FnScope N ps scope)
    (hbody : ∀ X E, Gs Z k N scope X (WE E) → BD X Z.T (WE E) U φ body) : FnG Z (k + 1) f (PySem.W.fnOf name qual params body scope dV kV doc pm an cdv ct) ps (defF N.length φ) := by
  intro A outer s H args vs us ds G L M Q E hr e0 hb r hl m rds hq
  refine StX.run_bnd lk hcd S hr.room e0 (G := fun xs H2 => xs = vs ∧ H2 = H) (fun A' Ex Q' h => hb _ _ _ _ ?_) fun s2 H2 xs ⟨ex, eH⟩ hr' => ?_
  · exact h s H vs us e0 Un.refl rfl (fun _ _ z => z) r hl ⟨rfl, rfl⟩
  · subst ex eH
    refine ⟨_, hbody (cxOf (L2.CX Z.P Z.w) Z.P Z.w Z.K Z.mg Z.base N qual scope f cdv A outer s2 H2 E) E ⟨⟨rfl, rfl, rfl, rfl, rfl, rfl, rfl, ⟨rfl, S.nd, ?_, hr.g⟩, ⟨hr', hr.g⟩, takes_of rfl rfl rfl rfl⟩, passes_of rfl, fun _ => rfl, rfl, rfl, rfl, S.kind⟩, startE N.length ds, G, L, M, sr_start m rds, fin_post m hq⟩
    have := hr'.un
    show (A.deeper _).units + 200 < cLine
    omega
end

/-! ### calls -/
/-- where a parameter's value comes from: the i-th written one, or a default -/
inductive Src where
  | at (i : Nat)
  | df (j : Nat) (d : P)
def planD : List Src → List D → Option (List D)
  | [], _ => some []
  | .at i :: r, ds => match ds[i]?, planD r ds with
    | some x, some xs => some (x :: xs)
    | _, _ => none
  | .df _ d :: r, ds => (planD r ds).map (D.p d :: ·)
def planU (its us : List Value) : List Src → List Value
  | [] => []
  | .at i :: r => us.getD i .none :: planU its us r
  | .df j _ :: r => its.getD j .none :: planU its us r
/-- how a call with n written values and keywords named ks binds -/
structure BindsG (K : PySem.W.Frag) (fd : FuncData) (ps : List Str) (n : Nat) (ks : List Str) (plan : List Src) : Prop where
  len : plan.length = ps.length
  ex : ∃ its : List Value, (∀ j d, Src.df j d ∈ plan → ∃ v u, its[j]? = some u ∧ RelV v u ∧ ∀ H Fb, Rp K H Fb v d) ∧
    ∀ (s : Shared) (us ws : List Value), K.In s.heap → us.length = n → ws.length = ks.length → BindsTo s fd ⟨us, ks.zip ws⟩ (ps.zip (planU its (us ++ ws) plan))
theorem RDs.app {K : PySem.W.Frag} {T : Tb} {H : Hp} {G : Addr → Prop} {L : List Addr} {M : Mem} : ∀ {vs us : List V} {ds es : List D}, RDs K T H G L M vs ds → RDs K T H G L M us es → RDs K T H G L M (vs ++ us) (ds ++ es)
  | _, _, _, _, .nil, r => r
  | _, _, _, _, .cons h t, r => .cons h (RDs.app t r)
theorem plan_ok {K : PySem.W.Frag} {T : Tb} {H : Hp} {G : Addr → Prop} {L : List Addr} {M : Mem} {its us : List Value} {vs : List V} {ds : List D} (rv : Vals vs us) (rd : RDs K T H G L M vs ds) : ∀ {plan : List Src} {bs : List D},
    (∀ j d, Src.df j d ∈ plan → ∃ v u, its[j]? = some u ∧ RelV v u ∧ ∀ H Fb, Rp K H Fb v d) → planD plan ds = some bs → ∃ xs, Vals xs (planU its us plan) ∧ RDs K T H G L M xs bs ∧ xs.length = plan.length
  | [], bs, _, e => by cases e; exact ⟨[], .nil, .nil, rfl⟩
  | .at i :: r, bs, hd, e => by
    unfold planD at e
    split at e
    · rename_i x xs e1 e2
      cases e
      obtain ⟨ys, h1, h2, h3⟩ := plan_ok rv rd (fun j d hm => hd j d (List.mem_cons_of_mem _ hm)) e2
      obtain ⟨v, q1, q2⟩ : ∃ v, vs[i]? = some v ∧ RD K T H G L M v x := by
        clear rv h1 h2 h3 e2 hd
        induction rd generalizing i with
        | nil => simp at e1
        | @cons a b as bs ha has ih =>
          cases i with
          | zero => simp at e1; subst e1; exact ⟨_, rfl, ha⟩
          | succ i =>
            obtain ⟨v, q1, q2⟩ := ih (i := i) (by simpa using e1)
            exact ⟨v, by simpa using q1, q2⟩
      obtain ⟨u, q3, q4⟩ := rv.get q1
      refine ⟨v :: ys, .cons ?_ h1, .cons q2 h2, by simp [h3]⟩
      rw [List.getD_eq_getElem?_getD, q3]
      exact q4
    · cases e
  | .df j d :: r, bs, hd, e => by
    unfold planD at e
    cases e2 : planD r ds with
    | none => rw [e2] at e; cases e
    | some xs =>
      rw [e2] at e
      cases e
      obtain ⟨ys, h1, h2, h3⟩ := plan_ok rv rd (fun j d hm => hd j d (List.mem_cons_of_mem _ hm)) e2
      obtain ⟨v, u, q1, q2, q3⟩ := hd j d List.mem_cons_self
      refine ⟨v :: ys, .cons ?_ h1, .cons (.p (q3 _ _)) h2, by simp [h3]⟩
      rw [List.getD_eq_getElem?_getD, q1]
      exact q2
/-- the keywords' values -/
def KD (X : Cx) (T : Tb) (W : WX) (β : AFn) (kws : List Keyword) : Prop := PK X kws (tA X T W β)
theorem PK.imp {X : Cx} {kws : List Keyword} {t t' : TA} (h : PK X kws t) (i : ∀ σ H Q, t' σ H Q → t σ H Q) : PK X kws t' := ⟨fun pos pins s σ H Q I q => h.run pos pins s σ H Q I (i σ H Q q)⟩
section
variable {X : Cx} {T : Tb} {W : WX} {e : Expr} {es : List Expr} {kws : List Keyword} {φ : PFn} {α β : AFn} {pos p kpos : Pos} {nm : Option Str}
theorem kd_nil : KD X T W aNil [] := PK.imp pk_nil fun σ H Q h => by
  obtain ⟨ρ, G, L, M, sr, h⟩ := h
  exact h [] H L Nxt.refl sr.mr .nil
theorem kd_cons (he : PD X T W φ e) (hr : KD X T W β kws) : KD X T W (aCons φ β) (⟨nm, e, kpos⟩ :: kws) := PK.imp (pk_cons he hr) fun σ H Q h => by
  obtain ⟨ρ, G, L, M, sr, h⟩ := h
  refine ⟨ρ, G, L, M, sr, (Post.bindA h).mono fun v H1 ⟨x, L1, M1, n1, m1, r1, h1⟩ => ?_⟩
  refine ⟨ρ, G, L1, M1, sr.ext n1 m1, (PostA.bindA h1).mono fun us H2 ⟨ds, L2, M2, n2, m2, r2, h2⟩ => ?_⟩
  exact h2 _ H2 L2 Nxt.refl m2 (.cons (r1.ext n2) r2)
end
def eCallU (fs : FS) (n m : Nat) (plan : List Src) (α β : AFn) : PFn := fun ρ M => (α ρ M).bind fun ds M1 => (β ρ M1).bind fun es M2 => if ds.length = n ∧ es.length = m then match planD plan (ds ++ es) with
    | some bs => fs bs M2
    | none => .bad
  else .bad
def kwNames (kws : List Keyword) : List Str := kws.filterMap (·.arg)
theorem kw_names {env : PySem.Env} {pos : Pos} : ∀ {kws : List Keyword}, (backToKw pos (keywordEach kws env)).filterMap (·.1) = kwNames kws
  | [] => rfl
  | ⟨n, v, q⟩ :: r => by
    have ih := @kw_names env pos r
    show ((n, _) :: backToKw pos (keywordEach r env)).filterMap (·.1) = (⟨n, v, q⟩ :: r : List Keyword).filterMap (·.arg)
    rw [List.filterMap_cons, List.filterMap_cons, ih]
    rfl
theorem kw_all {env : PySem.Env} {pos : Pos} : ∀ {kws : List Keyword}, kws.all (·.arg.isSome) = true → (backToKw pos (keywordEach kws env)).all (·.1.isSome) = true
  | [], _ => rfl
  | ⟨n, v, q⟩ :: r, h => by
    rw [List.all_cons, Bool.and_eq_true] at h
    show ((n, _) :: backToKw pos (keywordEach r env)).all (·.1.isSome) = true
    rw [List.all_cons, Bool.and_eq_true]
    exact ⟨h.1, kw_all h.2⟩
theorem kw_any {env : PySem.Env} {pos : Pos} : ∀ {kws : List Keyword}, kws.all (·.arg.isSome) = true → (backToKw pos (keywordEach kws env)).any (·.1.isNone) = false
  | [], _ => rfl
  | ⟨n, v, q⟩ :: r, h => by
    rw [List.all_cons, Bool.and_eq_true] at h
    show ((n, _) :: backToKw pos (keywordEach r env)).any (·.1.isNone) = false
    rw [List.any_cons, kw_any h.2, Bool.or_false]
    cases n with
    | none => cases h.1
    | some n => rfl
section
variable {Z : Wd} {k : Nat} {N : List Str} {sc : Scope} {X : Cx} {W : WX} {f : Addr} {fd : FuncData} {ps : List Str} {fs : FS} {n : Nat} {plan : List Src} {e : Expr} {es : List Expr} {kws : List Keyword} {φ : PFn} {α β : AFn} {pos p : Pos} {x : Str}
/-- the callee runs -/
theorem callU_run {ks : List Str} (g : Gd Z k N sc X W) (F : FnG Z k f fd ps fs) (B : BindsG Z.K fd ps n ks plan) {pins : List (Addr × Obj)} {s : Shared} {σ : L2.St} {H : Hp} {Q : VK} {G : Addr → Prop} {L : List Addr} {M : Mem} {vs zs : List V} {us ws : List Value} {ds es : List D} (I : Inv X pins σ H s)
    (r : Vals vs us) (rz : Vals zs ws) (hn : us.length = n) (hk : ws.length = ks.length) (m : MR X.K H G L M) (rd : RDs X.K Z.T H G L M vs ds) (re : RDs X.K Z.T H G L M zs es)
    (h : Post X.K Z.T H G L M (match planD plan (ds ++ es) with
      | some bs => fs bs M
      | none => .bad) Q fun cls d H' => W cls d σ H') : wpAny (model X.prog X.w) X.A (call (.ref f) us (ks.zip ws)) (EP X pins σ Q) X.xe s := by
  obtain ⟨its, hits, hb⟩ := B.ex
  have e0 := I.env0
  rw [g.hP, g.hw, g.hK, g.hm, g.hb] at e0
  have kin : Z.K.In s.heap := by rw [← g.hK]; exact I.kIn
  rw [g.hK] at m rd re h
  split at h
  · rename_i bs eb
    obtain ⟨xs, h1, h2, h3⟩ := plan_ok (its := its) (r.append rz) (RDs.app rd re) hits eb
    refine wpAny_call ?_
    rw [g.hP, g.hw]
    refine codeAny_mono (F X.A X.stack s H ⟨us, ks.zip ws⟩ xs _ bs G L M Q _ g.room e0 (hb s us ws kin hn hk) h1 (by rw [h3, B.len]) m h2 h) fun r' s' hq => ?_
    cases r' with
    | error e =>
      refine g.takes e s' (XE.of_call I (fun _ _ _ z => z) ?_)
      rw [g.hP, g.hw]
      exact hq
    | ok fl =>
      cases fl with
      | ret u =>
        refine I.after ?_
        rw [g.hP, g.hw]
        exact hq
      | next => exact False.elim hq
      | brk => exact False.elim hq
      | cont => exact False.elim hq
  · exact False.elim h
/-- what is behind the written values -/
theorem callU_kw (g : Gd Z k N sc X W) (F : FnG Z k f fd ps fs) (B : BindsG Z.K fd ps n (kwNames kws) plan) (hb : KD X Z.T W β kws) {pins : List (Addr × Obj)} {σ : L2.St} {Q : VK} {ρ : Env} {G : Addr → Prop} {us : List Value} {vs : List V} {ds : List D} {s1 : Shared} {H1 : Hp} {L1 : List Addr} {M1 : Mem}
    (I1 : Inv X pins σ H1 s1) (sr1 : SR X.K Z.T σ H1 ρ G L1 M1) (r1 : Vals vs us) (rd1 : RDs X.K Z.T H1 G L1 M1 vs ds)
    (h1 : Post X.K Z.T H1 G L1 M1 ((β ρ M1).bind fun es M2 => if ds.length = n ∧ es.length = (kwNames kws).length then match planD plan (ds ++ es) with
          | some bs => fs bs M2
          | none => .bad
        else .bad) Q (fun cls d H' => W cls d σ H')) :
    wpAny (model X.prog X.w) X.A (evalAll ((backToKw pos (keywordEach kws X.env)).map (·.2))) (fun ks s₂ => X.K.In s₂.heap ∧ wpAny (model X.prog X.w) X.A (call (.ref f) us (((backToKw pos (keywordEach kws X.env)).filterMap (·.1)).zip ks)) (EP X pins σ Q) X.xe s₂) X.xe s1 := by
  refine thn (hb.run pos pins s1 σ H1 _ I1 ⟨ρ, G, L1, M1, sr1, PostA.bind h1⟩) fun ws s2 ⟨zs, H2, I2, rz, es, L2, M2, n2, m2, rd2, h2⟩ => ⟨I2.kIn, ?_⟩
  rw [kw_names]
  split at h2
  · rename_i hl
    refine callU_run g F B I2 r1 rz ?_ ?_ m2 (rd1.ext n2) rd2 h2
    · rw [← r1.length, rd1.length]; exact hl.1
    · rw [← rz.length, rd2.length]; exact hl.2
  · exact False.elim h2
theorem callU_pl (g : Gd Z k N sc X W) (F : FnG Z k f fd ps fs) (B : BindsG Z.K fd ps n [] plan) {pins : List (Addr × Obj)} {σ : L2.St} {Q : VK} {ρ : Env} {G : Addr → Prop} {us : List Value} {vs : List V} {ds : List D} {s1 : Shared} {H1 : Hp} {L1 : List Addr} {M1 : Mem}
    (I1 : Inv X pins σ H1 s1) (m1 : MR X.K H1 G L1 M1) (r1 : Vals vs us) (rd1 : RDs X.K Z.T H1 G L1 M1 vs ds)
    (h1 : Post X.K Z.T H1 G L1 M1 ((aNil ρ M1).bind fun es M2 => if ds.length = n ∧ es.length = 0 then match planD plan (ds ++ es) with
          | some bs => fs bs M2
          | none => .bad
        else .bad) Q (fun cls d H' => W cls d σ H')) :
    wpAny (model X.prog X.w) X.A (call (.ref f) us) (EP X pins σ Q) X.xe s1 := by
  have h1 : Post X.K Z.T H1 G L1 M1 (if ds.length = n ∧ ([] : List D).length = 0 then match planD plan (ds ++ []) with
          | some bs => fs bs M1
          | none => .bad
        else .bad) Q (fun cls d H' => W cls d σ H') := h1
  split at h1
  · rename_i hl
    exact callU_run (zs := []) (ws := []) g F B I1 r1 .nil (by rw [← r1.length, rd1.length]; exact hl.1) rfl m1 rd1 .nil h1
  · exact False.elim h1
theorem pd_callU (g : Gd Z k N sc X W) (F : FnG Z k f fd ps fs) (B : BindsG Z.K fd ps n [] plan) (hg : Gl X x) (hm : Z.mg x = some (.ref f)) (hk : PySem.W.keepIn Z.K (.ref f) = true) (hst : (e :: es).any starB = false)
    (ha : AD X Z.T W α (e :: es)) (hdb : (x == ("__debug__" : Str)) = false) : PD X Z.T W (eCallU fs n 0 plan α aNil) (.Call (.Name x p) (e :: es) [] pos) := by
  refine ⟨fun pins s σ H Q I h => ?_⟩
  obtain ⟨ρ, G, L, M, sr, h⟩ := h
  rw [List.any_cons, Bool.or_eq_false_iff] at hst
  have hk' : PySem.W.keepIn X.K (.ref f) = true := by rw [g.hK]; exact hk
  refine wpAny_Call_Name_kw (ld_glob I hg (by rw [g.hm]; exact hm) ?_ hdb)
  refine PySem.W.callWith_K (h₀ := X.base) I.ok.mod.kin hk' (thn (ha.run pos pins s σ H _ I ⟨ρ, G, L, M, sr, PostA.bind h⟩) fun us s1 ⟨vs, H1, I1, r1, ds, L1, M1, n1, m1, rd1, h1⟩ => ⟨I1.kIn, ?_⟩) (star_cons hst.1) (star_any hst.2)
  exact callU_pl g F B I1 m1 r1 rd1 h1
theorem pd_callU0 (g : Gd Z k N sc X W) (F : FnG Z k f fd ps fs) (B : BindsG Z.K fd ps n [] plan) (hg : Gl X x) (hm : Z.mg x = some (.ref f)) (hk : PySem.W.keepIn Z.K (.ref f) = true)
    (hdb : (x == ("__debug__" : Str)) = false) : PD X Z.T W (eCallU fs n 0 plan aNil aNil) (.Call (.Name x p) [] [] pos) := by
  refine ⟨fun pins s σ H Q I h => ?_⟩
  obtain ⟨ρ, G, L, M, sr, h⟩ := h
  have hk' : PySem.W.keepIn X.K (.ref f) = true := by rw [g.hK]; exact hk
  refine wpAny_Call_Name_kw (ld_glob I hg (by rw [g.hm]; exact hm) ?_ hdb)
  exact PySem.W.callWith_K0 I.kIn hk' (callU_pl (ds := []) (vs := []) (ρ := ρ) g F B I sr.mr .nil .nil h)
theorem pd_callUK (g : Gd Z k N sc X W) (F : FnG Z k f fd ps fs) (B : BindsG Z.K fd ps n (kwNames kws) plan) (hg : Gl X x) (hm : Z.mg x = some (.ref f)) (hk : PySem.W.keepIn Z.K (.ref f) = true) (hst : (e :: es).any starB = false) (hkw : kws.all (·.arg.isSome) = true)
    (ha : AD X Z.T W α (e :: es)) (hb : KD X Z.T W β kws) (hdb : (x == ("__debug__" : Str)) = false) : PD X Z.T W (eCallU fs n (kwNames kws).length plan α β) (.Call (.Name x p) (e :: es) kws pos) := by
  refine ⟨fun pins s σ H Q I h => ?_⟩
  obtain ⟨ρ, G, L, M, sr, h⟩ := h
  have hst' := hst
  rw [List.any_cons, Bool.or_eq_false_iff] at hst
  have hk' : PySem.W.keepIn X.K (.ref f) = true := by rw [g.hK]; exact hk
  refine wpAny_Call_Name_kw (ld_glob I hg (by rw [g.hm]; exact hm) ?_ hdb)
  refine PySem.W.callWith_KW (h₀ := X.base) I.ok.mod.kin hk' (kw_all hkw) (thn (ha.run pos pins s σ H _ I ⟨ρ, G, L, M, sr, PostA.bind h⟩) fun us s1 ⟨vs, H1, I1, r1, ds, L1, M1, n1, m1, rd1, h1⟩ => ?_) (by rw [star_any hst', kw_any hkw]; rfl) (star_cons hst.1)
  exact callU_kw g F B hb I1 (sr.ext n1 m1) r1 rd1 h1
theorem pd_callU0K (g : Gd Z k N sc X W) (F : FnG Z k f fd ps fs) (B : BindsG Z.K fd ps n (kwNames kws) plan) (hg : Gl X x) (hm : Z.mg x = some (.ref f)) (hk : PySem.W.keepIn Z.K (.ref f) = true) (hkw : kws.all (·.arg.isSome) = true)
    (hb : KD X Z.T W β kws) (hdb : (x == ("__debug__" : Str)) = false) : PD X Z.T W (eCallU fs n (kwNames kws).length plan aNil β) (.Call (.Name x p) [] kws pos) := by
  refine ⟨fun pins s σ H Q I h => ?_⟩
  obtain ⟨ρ, G, L, M, sr, h⟩ := h
  have hk' : PySem.W.keepIn X.K (.ref f) = true := by rw [g.hK]; exact hk
  refine wpAny_Call_Name_kw (ld_glob I hg (by rw [g.hm]; exact hm) ?_ hdb)
  refine PySem.W.callWith_KW0 (h₀ := X.base) I.ok.mod.kin hk' (kw_all hkw) ?_ (by rw [kw_any hkw]; rfl)
  exact callU_kw (ds := []) (vs := []) g F B hb I sr .nil .nil h
end
end Cb

set_option Elab.async false
set_option linter.all false
set_option maxRecDepth 100000
/-! Cb, part K: sorted of lists and tuples, by len too; dict displays. -/
namespace Cb
open PySem PySem.Spec PyProof.Rows L2

section
variable {prog : Program} {w : World} {A : Around} {E : Value → Shared → Prop} {s : Shared}
open PySem.W in
theorem gather_seq {p : Addr} {ob : Obj} {us : List Value} {n : Nat} {Q : List Value → Shared → Prop} (hg : s.heap.get? p = some ob) (hc : ob.cls = .type "list" ∨ ob.cls = .type "tuple") (hd : ob.data = .seq us.toArray n) (hz : us.length ≤ sizeLine)
    (k : Q us { s with heap := (s.heap.push (seqObj "list" #[] 0)).update s.heap.objs.size (Obj.mapSeq (· ++ us.toArray)) }) : wpAny (model prog w) A (collect (.ref p)) Q E s := by
  unfold collect
  refine wpAny_bind (wpAny_runValue (codeAny_builtin entry_proto_collect' ?_))
  show wpAny _ _ (do again (.builtin "list.__iadd__" ⟨[← newList [], .ref p], []⟩)) _ _ s
  refine wpAny_bind (wpAny_newList ?_)
  refine wpAny_pure ⟨Code.quiet_builtin _ (by decide +kernel), codeAny_builtin entry_list_iadd' ?_⟩
  show wpAny _ _ (Builtin.List.listExtendWith (.ref s.heap.objs.size) (.ref p) _) _ _ { s with heap := s.heap.push (seqObj "list" #[] 0) }
  unfold Builtin.List.listExtendWith
  have hg2 : (s.heap.push (seqObj "list" #[] 0)).get? p = some ob := Heap.get?_push_of_some _ hg
  have hty : ∃ T, ob.cls = .type T ∧ (T = "list" ∨ T = "tuple") := hc.elim (fun e => ⟨_, e, .inl rfl⟩) fun e => ⟨_, e, .inr rfl⟩
  obtain ⟨T, eT, oT⟩ := hty
  have cond : ∀ b : Bool, (b || Value.type T == Value.type "list" || Value.type T == Value.type "tuple") = true := fun b => by
    have l1 : (Value.type "list" == Value.type "list") = true := by rfl
    have l2 : (Value.type "tuple" == Value.type "tuple") = true := by rfl
    rcases oT with e | e <;> subst e
    · rw [l1]; simp
    · rw [l2]; simp
  refine wpAny_bind (wpAny_typeOf ⟨ob, hg2, eT⟩ ?_)
  rw [if_pos (cond _)]
  have mine : (s.heap.push (seqObj "list" #[] 0)).get? s.heap.objs.size = some (seqObj "list" #[] 0) := Heap.get?_push_size _ rfl
  refine wpAny_bind (listItems_at hg2 hd (wpAny_bind (listItems_at mine rfl ?_)))
  rw [if_neg (by simp)]
  have fits : (#[] ++ us.toArray).size ≤ sizeLine + 1 := by
    rw [Array.size_append, List.size_toArray]
    simp
    omega
  refine wpAny_bind (listUpdate_at mine rfl (wpAny_pure ?_) (Nat.zero_le _) fits)
  show wpAny (model prog w) A (do
      let r ← load s.heap.objs.size
      match r.data with
      | .seq ys _ => pure ys.toList
      | _ => unsupported "internal:collect") Q E _
  refine wpAny_bind (wpAny_load (get?_update_seq mine _) ?_)
  have back : ((#[] : Array Value) ++ us.toArray).toList = us := by simp
  show wpAny _ _ (pure ((#[] : Array Value) ++ us.toArray).toList) Q E _
  rw [back]
  exact wpAny_pure k
open PySem.W PySem.Calls in
/-- sorted(xs, ..) is sort(..) on the copy -/
theorem sorted_seq {p : Addr} {ob : Obj} {us : List Value} {n : Nat} {kw : List (Str × Value)} {Q : Value → Shared → Prop} (hg : s.heap.get? p = some ob) (hc : ob.cls = .type "list" ∨ ob.cls = .type "tuple") (hd : ob.data = .seq us.toArray n) (hz : us.length ≤ sizeLine)
    (a1 : argsOk "sorted" ⟨[.ref p], kw⟩) (a2 : ∀ x, argsOk "list.sort" ⟨[.ref x], kw⟩)
    (body : ∀ E' : Value → Shared → Prop, wpAny (model prog w) A.in1.in1 (Builtin.«list.sort» ⟨[.ref (s.heap.objs.size + 1)], kw⟩) (fun f s' => f = .done (.ret .none) ∧ Q (.ref (s.heap.objs.size + 1)) s') E' { s with heap := copyHeap s.heap us }) :
    wpAny (model prog w) A (call (.builtin "sorted") [.ref p] kw) Q E s := by
  refine call_function_entry_kw kind_sorted plain_sorted entry_sorted a1 ?_
  unfold Builtin.«sorted»
  refine wpAny_bind (m := checkCount "sorted" 1 1 _) (wpAny_pure ?_)
  refine wpAny_bind (gather_seq hg hc hd hz (wpAny_bind (wpAny_newList ?_ hz)))
  have sz : ((s.heap.push (seqObj "list" #[] 0)).update s.heap.objs.size (Obj.mapSeq (· ++ us.toArray))).objs.size = s.heap.objs.size + 1 := (Heap.size_update ..).trans (size_push' ..)
  show wpAny _ _ _ _ _ { s with heap := copyHeap s.heap us }
  rw [sz]
  refine wpAny_bind (wpAny_holding (wpAny_call_entry_kw slot_list_sort ⟨_, copyHeap_at s.heap us, rfl⟩ entry_list_sort ?_ (a2 _)))
  show wpAny (model prog w) A.in1.in1 (Builtin.«list.sort» ⟨[.ref (s.heap.objs.size + 1)], kw⟩) _ _ _
  refine wpAny_mono (body _) (fun f s' h => ?_) fun _ _ e => e
  obtain ⟨rfl, q⟩ := h
  exact ⟨_, rfl, wpAny_pure ⟨_, rfl, q⟩⟩
end
section
open PySem.W
theorem Rp.reads {X : Cx} {pins : List (Addr × Obj)} {σ : L2.St} {H : Hp} {s : Shared} {Fb : Addr → Prop} (I : Inv X pins σ H s) {v : V} {u : Value} {d : P} (hp : d.plain = true) (r : Rp X.K H Fb v d) (ru : RelV v u) : ∃ as, Reads s.heap u d as :=
  Dp.reads I _ _ _ (Rp.dp _ _ hp r) ru
end
/-- a list or a tuple in the heap -/
theorem seq_at {X : Cx} {pins : List (Addr × Obj)} {σ : L2.St} {H : Hp} {s : Shared} {a : Addr} {vs : List V} (I : Inv X pins σ H s) (h : SqL X.K H a vs ∨ SqT X.K H a vs) :
    ∃ (its : List Value) (ob : Obj) (n : Nat), Vals vs its ∧ s.heap.get? a = some ob ∧ (ob.cls = .type "list" ∨ ob.cls = .type "tuple") ∧ ob.data = .seq its.toArray n ∧ its.length ≤ sizeLine := by
  rcases h with h | h
  · obtain ⟨its, rv, pl, hz⟩ := I.list h
    obtain ⟨ob, e1, e2, n, e3⟩ := pl.isList
    exact ⟨its, ob, n, rv, e1, .inl e2, e3, by rw [← rv.length]; exact hz⟩
  · obtain ⟨its, rv, ⟨ob, e1, e2, n, e3⟩, hz⟩ := I.tuple h
    exact ⟨its, ob, n, rv, e1, .inr e2, e3, by rw [← rv.length]; exact hz⟩
theorem sortOk_ok {xs : List P} (h : sortOk xs = true) : (∀ b, b ∈ xs → okP b = true) ∧ PySem.W.AllAlike xs ∧ PySem.W.Sortable xs := by
  unfold sortOk at h
  simp only [Bool.and_eq_true, Bool.or_eq_true, List.all_eq_true] at h
  obtain ⟨⟨k1, k2⟩, k3⟩ := h
  refine ⟨k1, fun d hd d' hd' => k2 d hd d' hd', ?_⟩
  rcases k3 with k3 | k3
  · refine .inl fun d hd => ?_
    have := k3 d hd
    cases d with
    | tuple ys => cases ys with
      | nil => cases this
      | cons y r => exact ⟨y, r, rfl⟩
    | _ => cases this
  · refine .inr fun d hd => ?_
    have := k3 d hd
    exact ⟨fun z => (by rw [z] at this; cases this), fun ys z => (by rw [z] at this; cases this)⟩
/-- sorted(xs) of a list or a tuple -/
def bSrt : List D → Mem → Option (Ev × Mem) := fun ds M => match ds with
  | [d] => match seqP d M with
    | some xs => if sortOk xs = true then some (.new (.lst (sortP xs)), M) else none
    | none => none
  | _ => none
theorem srt_new {X : Cx} {T : Tb} {pins : List (Addr × Obj)} {σ : L2.St} {H : Hp} {s : Shared} {G : Addr → Prop} {L : List Addr} {M : Mem} {zs : List P} {out : List Value} {h' : Heap} {tk c : Nat} {Q : VK} (I : Inv X pins σ H s) (m : MR X.K H G L M) (hz : zs.length ≤ sizeLine)
    (kp : ∀ b o, s.heap.get? b = some o → h'.get? b = some o) (at_ : h'.get? (s.heap.objs.size + 1) = some (seqObj "list" (List.toArray out) c)) (e : PySem.W.EachIs (fun u d => ∃ x, RelV x u ∧ Rp X.K H (Fbd L M G) x d) out zs)
    (q : Post X.K T H G L M (.ok (.new (.lst zs)) M) Q never) : EP X pins σ Q (.ref (s.heap.objs.size + 1)) { s with heap := h', toks := tk } := by
  obtain ⟨vs, r1, r2⟩ := each_back e
  have fr : H (s.heap.objs.size + 1) = none := I.hok.fresh (Nat.le_succ _)
  have lz : vs.length ≤ sizeLine := by rw [r2.length]; exact hz
  exact ⟨.ref _, upd H (s.heap.objs.size + 1) (.lst vs), I.laid (t' := tk) kp (Nat.le_succ _) ⟨lz, out, c, r1, at_⟩, rfl, q _ _ H L fr Nxt.refl m (.lst r2)⟩
open PySem.W in
theorem cg_srt {X : Cx} {T : Tb} (c : XOk X) : CallG X T (.builtin "sorted") bSrt := by
  intro pins s σ H xs us Q I r h
  obtain ⟨ds, ev, M', G, L, M, m, rds, e, q⟩ := h
  unfold bSrt at e
  split at e
  · split at e
    · rename_i d zs e1
      split at e
      · rename_i hok
        cases e
        cases rds with
        | cons r1 r2 =>
        cases r2
        obtain ⟨p, vs, rfl, hsq, h2⟩ := seqP_ok m r1 e1
        obtain ⟨u, rfl, ru⟩ := vals1 r
        cases ru
        obtain ⟨its, ob, n, rv, g1, g2, g3, hz⟩ := seq_at I hsq
        obtain ⟨k1, k2, k3⟩ := sortOk_ok hok
        have hl : zs.length = its.length := by rw [← rv.length, h2.length]
        have ea := Cb.each_of rv h2
        have er : EachIs (fun u d => ∃ as, Reads (sortingHeap (copyHeap s.heap its) (s.heap.objs.size + 1) its) u (id d) as) its zs := each_mono_mem ea fun a b hb ⟨x, rx, rp⟩ => by
          obtain ⟨as, ra⟩ := Rp.reads I (okP_plain (k1 b hb)) rp rx
          exact ⟨as, PyProof.Rows.Reads.keeps (fun _ _ => sorting_copy_old) ra⟩
        have al : AllAlike (zs.map id) := by rw [List.map_id]; exact k2
        have so : Sortable (zs.map id) := by rw [List.map_id]; exact k3
        refine sorted_seq g1 g2 g3 hz (args_sorted1 _) (fun _ => args_list_sort _) fun E' => ?_
        have S := SortsAt.data (prog := X.prog) (w := X.w) (A := X.A.in1.in1) (s := { s with heap := sortingHeap (copyHeap s.heap its) (s.heap.objs.size + 1) its }) (PySem.W.each_map (R := fun v d => ∃ as, Reads (sortingHeap (copyHeap s.heap its) (s.heap.objs.size + 1) its) v d as) id er) al so (fun d hd => by
          rw [List.map_id] at hd
          have := okP_depth (k1 d hd)
          have := c.hu
          show X.A.units + 2 + d.depth < cLine
          omega)
        refine list_sort_vals (s := { s with heap := copyHeap s.heap its }) (copyHeap_at s.heap its) S hz ⟨rfl, ?_⟩
        have out := sortVals_data (enc := id) false ea er al
        obtain ⟨ep, he⟩ := PyProof.Rows.sortedAll_at s.heap its (List.toArray (sortVals (dataKind (sortingHeap (copyHeap s.heap its) (s.heap.objs.size + 1) its) (zs.map id)) false its its))
        refine srt_new I m ?_ (fun _ _ => PyProof.Rows.sortedAll_old) he out q
        rw [List.length_mergeSort, hl]; exact hz
      · cases e
    · cases e
  · cases e
/-- sorted(xs, key=len) -/
def kLen : P → Option Nat
  | .list xs => some xs.length
  | .tuple xs => some xs.length
  | .str x => some x.length
  | _ => none
def keyLen (d : P) : P := .int ((kLen d).getD 0)
def okLen (x : P) : Bool := okP x && (kLen x).isSome
def bSrtLen (xs : List P) : List P := xs.mergeSort (PySem.W.dataLe false keyLen)
open PySem.W PySem.Calls in
theorem srt_len {X : Cx} {T : Tb} (c : XOk X) {pins : List (Addr × Obj)} {s : Shared} {σ : L2.St} {H : Hp} {v : V} {u : Value} {d : D} {G : Addr → Prop} {L : List Addr} {M : Mem} {Q : VK} {zs : List P} (I : Inv X pins σ H s) (m : MR X.K H G L M) (r1 : RD X.K T H G L M v d) (ru : RelV v u)
    (e1 : seqP d M = some zs) (hok : zs.all okLen = true) (q : Post X.K T H G L M (.ok (.new (.lst (bSrtLen zs))) M) Q never) :
    wpAny (model X.prog X.w) X.A (call (.builtin "sorted") [u] [(Str.ofString "key", .builtin "len")]) (EP X pins σ Q) X.xe s := by
  obtain ⟨p, vs, rfl, hsq, h2⟩ := seqP_ok m r1 e1
  cases ru
  obtain ⟨its, ob, n, rv, g1, g2, g3, hz⟩ := seq_at I hsq
  rw [List.all_eq_true] at hok
  have hl : zs.length = its.length := by rw [← rv.length, h2.length]
  have ea := Cb.each_of rv h2
  refine sorted_seq g1 g2 g3 hz (ksk_s1 _ _) (fun _ => ksk_l1 _ _) fun E' => ?_
  rw [ksk_t4]
  have bit : ∀ x, x ∈ zs → ∃ k, kLen x = some k ∧ okP x = true := fun x hx => by
    have := hok x hx
    unfold okLen at this
    rw [Bool.and_eq_true] at this
    obtain ⟨k, ek⟩ := Option.isSome_iff_exists.mp this.2
    exact ⟨k, ek, this.1⟩
  have hn := line63
  refine keyH_tree (kz := zs.map keyLen) (s := { s with heap := copyHeap s.heap its }) (copyHeap_at s.heap its) (by rw [List.length_map, hl]) hz ?_ ?_ ?_ ?_ fun h' tk out cc kp hD ko => ⟨rfl, ?_⟩
  · intro a ha b hb
    obtain ⟨x, _, rfl⟩ := List.mem_map.mp ha
    obtain ⟨y, _, rfl⟩ := List.mem_map.mp hb
    rfl
  · refine .inr fun a ha => ?_
    obtain ⟨x, _, rfl⟩ := List.mem_map.mp ha
    exact ⟨fun z => (by cases z), fun ys z => (by cases z)⟩
  · intro a ha
    obtain ⟨x, _, rfl⟩ := List.mem_map.mp ha
    have := c.hu
    show X.A.units + 2 + (keyLen x).depth < cLine
    have : (keyLen x).depth ≤ 1 := by simp [keyLen, PyData.depth]
    omega
  · refine keyH_turns (s := { s with heap := copyHeap s.heap its }) ea fun w x hR hx h tk kp => ?_
    have up : ∀ b o, s.heap.get? b = some o → h.get? b = some o := fun b o e => kp b o (Nat.ne_of_lt (Nat.lt_succ_of_lt (Heap.lt_size e))) (copyHeap_old e)
    obtain ⟨y, ry, rp⟩ := hR
    obtain ⟨k, ek, eo⟩ := bit x hx
    have kv : keyLen x = .int (k : Nat) := by unfold keyLen; rw [ek]; rfl
    rw [kv]
    have seq : ∀ {a : Addr} {xs : List V}, (SqL X.K H a xs ∨ SqT X.K H a xs) → xs.length = k → w = .ref a → wpAny (model X.prog X.w) X.A.in1.in1 (call (.builtin "len") [w]) (KeyPure (.int (k : Nat)) { s with heap := h, toks := tk }) (fun _ _ => False) { s with heap := h, toks := tk } := by
      intro a xs hs hk ew
      subst ew
      obtain ⟨us, ob2, n2, rv2, f1, f2, f3, fz⟩ := seq_at I hs
      have fl : us.toArray.size = k := by rw [List.size_toArray, ← rv2.length, hk]
      have fit : ((us.toArray.size : Nat) : Int) < 2 ^ 63 := by rw [List.size_toArray]; omega
      rcases f2 with f2 | f2
      · refine call_len_list (items := us.toArray) ⟨ob2, up _ _ f1, f2, n2, f3⟩ fit ?_
        rw [fl]
        exact ⟨h, _, rfl, fun b o e => e, .int _ _⟩
      · refine PyProof.Rows.len_tuple (items := us.toArray) ⟨ob2, up _ _ f1, f2, n2, f3⟩ fit ?_
        rw [fl]
        exact ⟨h, _, rfl, fun b o e => e, .int _ _⟩
    cases rp with
    | lst h1 h3 h4 =>
      cases ry
      exact seq (.inl (.inl (.inl h1))) (by rw [h4.length]; simpa [kLen] using ek) rfl
    | tup h1 h3 h4 =>
      cases ry
      exact seq (.inr (.inl h1)) (by rw [h4.length]; simpa [kLen] using ek) rfl
    | tupK k1 k2 k3 k4 k5 h4 =>
      cases ry
      exact seq (.inr (.inr ⟨_, _, _, k1, k2, k3, k4, k5⟩)) (by rw [h4.length]; simpa [kLen] using ek) rfl
    | str z hz2 =>
      obtain ⟨t, rfl⟩ := ry
      have e5 : z.length = k := by simpa [kLen] using ek
      refine PySem.P.len_str (by omega) ?_
      rw [e5]
      exact ⟨h, _, rfl, fun b o e => e, .int _ _⟩
    | _ => simp [kLen] at ek
  · refine srt_new I m ?_ (fun b o e => kp b o (Nat.ne_of_lt (Nat.lt_succ_of_lt (Heap.lt_size e))) (copyHeap_old e)) hD (keyedOut_each keyLen ko ea) q
    rw [List.length_mergeSort, hl]; exact hz
def eSrtLen (φ : PFn) : PFn := fun ρ M => (stl (φ ρ M)).bind fun d M1 => match seqP d M1 with
  | some xs => if xs.all okLen = true then .ok (.new (.lst (bSrtLen xs))) M1 else .bad
  | none => .bad
theorem pd_srtLen {X : Cx} {T : Tb} {W : WX} {φ : PFn} {e : Expr} {p pos q kp : Pos} (c : XOk X) (hg : Gl X "sorted") (hm : X.mg "sorted" = none) (hg2 : Gl X "len") (hm2 : X.mg "len" = none) (he : PD X T W φ e) (hs : starB e = false) :
    PD X T W (eSrtLen φ) (.Call (.Name "sorted" p) [e] [⟨some "key", .Name "len" q, kp⟩] pos) := by
  refine ⟨fun pins s σ H Q I h => ?_⟩
  obtain ⟨ρ, G, L, M, sr, h⟩ := h
  refine wpAny_Call_Name_kw (ld_blt I hg hm PyProof.Rows.boot_sorted ?_)
  have he1 := he.run pins s σ H _ I ⟨ρ, G, L, M, sr, Post.bind h⟩
  refine PyProof.Rows.callWith_kw ?_ (by rw [star_cons hs]; rfl) (by rw [star_cons hs]; rfl) rfl rfl
  rw [star_cons hs]
  refine Calls.spliced_cons (thn he1 fun u s1 ⟨v, H1, I1, r1, d, L1, M1, n1, m1, rd, h1⟩ => Calls.spliced_nil ?_)
  split at h1
  · rename_i zs e1
    split at h1
    · rename_i hok
      show wpAny _ _ (evalAll [(do let v ← eval (.Name "len" q) X.env; standAt pos; pure v)]) _ _ s1
      refine wpAny_evalAll_cons (wpAny_bind (ld_blt I1 hg2 hm2 PySem.boot_len (wpAny_bind (wpAny_standAt (wpAny_pure (wpAny_evalAll_nil ?_))))))
      exact srt_len c I1 m1 rd r1 e1 hok (Post.ok_any h1 never)
    · exact False.elim h1
  · exact False.elim h1
end Cb

set_option Elab.async false
set_option linter.all false
set_option maxRecDepth 100000
/-! Cb, part L: dict displays; the rules as the printed terms use them. -/
namespace Cb
open PySem PySem.Spec PyProof.Rows L2

/-! ### {k: v, ..} -/
def pairL : List (PFn × PFn) → Env → Mem → Res (List (P × P))
  | [], _, M => .ok [] M
  | kv :: r, ρ, M => (ne (stl (kv.1 ρ M))).bind fun k M1 => (ne (stl (kv.2 ρ M1))).bind fun v M2 => match k with
    | .p kp => match keyOf kp with
      | some _ => match pur v M2 with
        | some (y, M3) => (pairL r ρ M3).bind fun ps M4 => .ok ((kp, y) :: ps) M4
        | none => .bad
      | none => .bad
    | _ => .bad
def mergeP (ps : List (P × P)) : List (P × P) := ps.foldl (fun acc kv => dputP acc kv.1 kv.2) []
def eDisp (l : List (PFn × PFn)) : PFn := fun ρ M => (pairL l ρ M).bind fun ps M1 => .ok (.new (.dct (mergeP ps))) M1
def eDNew : PFn := fun _ M => .ok (.new (.dct [])) M
theorem ne_case {α : Type} (r : Res α) : ne r = .bad ∨ ∃ a M, r = .ok a M := by
  cases r with
  | ok a M => exact .inr ⟨a, M, rfl⟩
  | err _ _ => exact .inl rfl
  | bad => exact .inl rfl
theorem pairL_len : ∀ {l : List (PFn × PFn)} {ρ : Env} {M M' : Mem} {ps : List (P × P)}, pairL l ρ M = .ok ps M' → ps.length = l.length
  | [], _, _, _, _, h => by cases h; rfl
  | kv :: r, ρ, M, M', ps, h => by
    unfold pairL at h
    rcases ne_case (stl (kv.1 ρ M)) with e | ⟨k, M1, e⟩
    · rw [e] at h; cases h
    rw [e, ne_ok, Res.bind_ok] at h
    rcases ne_case (stl (kv.2 ρ M1)) with e2 | ⟨v, M2, e2⟩
    · rw [e2] at h; cases h
    rw [e2, ne_ok, Res.bind_ok] at h
    split at h
    · split at h
      · split at h
        · rename_i y M3 _
          cases e5 : pairL r ρ M3 with
          | ok qs M4 =>
            rw [e5, Res.bind_ok] at h
            cases h
            rw [List.length_cons, List.length_cons, pairL_len e5]
          | err _ _ => rw [e5] at h; cases h
          | bad => rw [e5] at h; cases h
        · cases h
      · cases h
    · cases h
theorem pairs_go {X : Cx} {T : Tb} : ∀ {l : List (PFn × PFn)} {ρ : Env} {σ : L2.St} {H : Hp} {G : Addr → Prop} {L : List Addr} {M M' : Mem} {ps : List (P × P)} {Q : List (V × V) → Hp → Prop}, SR X.K T σ H ρ G L M → pairL l ρ M = .ok ps M' →
    (∀ us H' L', Nxt H L M H' L' M' → MR X.K H' G L' M' → (∃ kvs : List (Key × V), us = kvs.map (fun kv => (kV kv.1, kv.2)) ∧ RpKV X.K H' (Fbd L' M' G) kvs ps) → Q us H') →
    tPairs (l.map fun kv => (tE X T Wn kv.1, tE X T Wn kv.2)) σ H Q
  | [], ρ, σ, H, G, L, M, M', ps, Q, sr, h, q => by
    cases h
    exact q [] H L Nxt.refl sr.mr ⟨[], rfl, .nil⟩
  | kv :: r, ρ, σ, H, G, L, M, M', ps, Q, sr, h, q => by
    unfold pairL at h
    rcases ne_case (stl (kv.1 ρ M)) with e | ⟨k, M1, e⟩
    · rw [e] at h; cases h
    rw [e, ne_ok, Res.bind_ok] at h
    refine ⟨ρ, G, L, M, sr, Post.of (by rw [e]; exact fun z => nomatch z) fun d Md v H1 L1 ed n1 m1 r1 => ?_⟩
    rw [e] at ed
    cases ed
    rcases ne_case (stl (kv.2 ρ M1)) with e2 | ⟨v2, M2, e2⟩
    · rw [e2] at h; cases h
    rw [e2, ne_ok, Res.bind_ok] at h
    have s1 := sr.ext n1 m1
    refine ⟨ρ, G, L1, M1, s1, Post.of (by rw [e2]; exact fun z => nomatch z) fun d2 Md2 w H2 L2 ed2 n2 m2 r2 => ?_⟩
    rw [e2] at ed2
    cases ed2
    split at h
    · rename_i kp
      split at h
      · rename_i kk ek
        split at h
        · rename_i y M3 ep
          obtain ⟨n3, m3, q3⟩ := pur_ok m2 r2 ep
          cases e5 : pairL r ρ M3 with
          | ok qs M4 =>
            rw [e5, Res.bind_ok] at h
            cases h
            have s3 := (s1.ext n2 m2).ext n3 m3
            refine pairs_go s3 e5 fun us H4 L4 n4 m4 hk => ?_
            obtain ⟨kvs, rfl, rk⟩ := hk
            refine q _ H4 L4 (((n1.trans n2).trans n3).trans n4) m4 ⟨(kk, w) :: kvs, ?_, ?_⟩
            · cases r1 with
              | p r1 => rw [kV_of r1 ek]; rfl
            · rw [keyOf_P ek]
              exact .cons (Rp.ext n4.keeps _ _ q3) rk
          | err _ _ => rw [e5] at h; cases h
          | bad => rw [e5] at h; cases h
        · cases h
      · cases h
    · cases h
theorem merge_kv {K : PySem.W.Frag} {H : Hp} {Fb : Addr → Prop} : ∀ (more : List (Key × V)) (ps : List (P × P)) (kvs : List (Key × V)) (ds : List (P × P)), RpKV K H Fb kvs ds → RpKV K H Fb more ps → RpKV K H Fb (mergeK kvs more) (ps.foldl (fun acc kv => dputP acc kv.1 kv.2) ds)
  | [], _, _, _, r, q => by cases q; exact r
  | (k, v) :: more, _, kvs, ds, r, q => by
    cases q with
    | @cons _ _ _ d ds' h t =>
      have z := merge_kv more ds' (putK kvs k v) (dputP ds (keyP k) d) (r.put h) t
      exact z
/-- the pairs of a display -/
inductive PP (X : Cx) (T : Tb) : List (PFn × PFn) → List (Option Expr) → List Expr → Prop
  | nil : PP X T [] [] []
  | cons {φ ψ : PFn} {k v : Expr} {l : List (PFn × PFn)} {ks : List (Option Expr)} {vs : List Expr} (hk : PD X T Wn φ k) (hv : PD X T Wn ψ v) (t : PP X T l ks vs) : PP X T ((φ, ψ) :: l) (some k :: ks) (v :: vs)
theorem PP.pps {X : Cx} {T : Tb} {pos : Pos} : ∀ {l : List (PFn × PFn)} {ks : List (Option Expr)} {vs : List Expr}, PP X T l ks vs → PPs X pos ks vs (l.map fun kv => (tE X T Wn kv.1, tE X T Wn kv.2))
  | _, _, _, .nil => pps_nil
  | _, _, _, .cons hk hv t => pps_cons hk hv t.pps
theorem PP.len {X : Cx} {T : Tb} : ∀ {l : List (PFn × PFn)} {ks : List (Option Expr)} {vs : List Expr}, PP X T l ks vs → ks.length = l.length ∧ vs.length = l.length ∧ ks.all (·.isSome) = true
  | _, _, _, .nil => ⟨rfl, rfl, rfl⟩
  | _, _, _, .cons _ _ t => by
    obtain ⟨h1, h2, h3⟩ := t.len
    exact ⟨by simp [h1], by simp [h2], by simp [h3]⟩
/-- what raises nothing, in any wish -/
theorem pd_disp {X : Cx} {T : Tb} {W : WX} {l : List (PFn × PFn)} {ks : List (Option Expr)} {vs : List Expr} {pos : Pos} (h : PP X T l ks vs) (h0 : l.length ≠ 0) (h15 : l.length ≤ 15) : PD X T W (eDisp l) (.Dict ks vs pos) := by
  obtain ⟨l1, l2, l3⟩ := h.len
  refine PE.imp (pe_disp h.pps l3 (l1.trans l2.symm) (fun z => h0 (by rw [← l1, z]; rfl)) (by rw [l1]; exact h15)) fun σ H Q h => ?_
  obtain ⟨ρ, G, L, M, sr, h⟩ := h
  unfold eDisp at h
  cases e : pairL l ρ M with
  | bad => rw [e] at h; exact False.elim h
  | err x M' =>
    exfalso
    clear h h0 h15 l1 l2 l3
    revert e
    generalize M = M0
    have no : ∀ (l : List (PFn × PFn)) (M : Mem), ∀ x M', pairL l ρ M ≠ .err x M' := by
      intro l
      induction l with
      | nil => intro M x M' z; cases z
      | cons kv r ih =>
        intro M x M' z
        unfold pairL at z
        rcases ne_case (stl (kv.1 ρ M)) with e | ⟨k, M1, e⟩
        · rw [e] at z; cases z
        rw [e, ne_ok, Res.bind_ok] at z
        rcases ne_case (stl (kv.2 ρ M1)) with e2 | ⟨v2, M2, e2⟩
        · rw [e2] at z; cases z
        rw [e2, ne_ok, Res.bind_ok] at z
        split at z
        · split at z
          · split at z
            · rename_i y M3 _
              cases e5 : pairL r ρ M3 with
              | ok qs M4 => rw [e5, Res.bind_ok] at z; cases z
              | err a b => exact ih M3 a b e5
              | bad => rw [e5] at z; cases z
            · cases z
          · cases z
        · cases z
    exact no l M0 x M'
  | ok ps M' =>
    rw [e, Res.bind_ok] at h
    intro p hp
    have sp : SR X.K T σ (upd H p (.dK [])) ρ (GP G p) L M := sr.extE ⟨keeps_hide hp, fun _ _ z => z⟩ (sr.mr.hide hp)
    have hGp : ¬ G p := fun g => sr.mr.tg p g hp
    refine pairs_go sp e fun us H2 L2 n2 m2 hk => ?_
    obtain ⟨kvs, eu, rk⟩ := hk
    have hp2 : H2 p = some (.dK []) := n2.hid_keep (sr.mr.hide hp) (.inr rfl) upd_same
    have hl : kvs.length ≤ 15 := by rw [rk.length, pairL_len e]; exact h15
    refine ⟨hp2, kvs, eu, hl, ?_⟩
    have ne2 : Nxt H L M (era p H2) L2 M' := by
      have := n2.era (p := p)
      rw [era_of_upd, era_none hp] at this
      exact this
    have fin := h p (.dK (mergeK [] kvs)) (era p H2) L2 era_same ne2 (m2.out hGp) (.dct (merge_kv _ _ _ _ .nil (RpKV.ext keeps_out _ _ rk)))
    have e2 : upd (era p H2) p (HO.dK (mergeK [] kvs)) = upd H2 p (.dK (mergeK [] kvs)) := by
      funext a
      by_cases ea : a = p
      · rw [ea, upd_same, upd_same]
      · rw [upd_ne ea, upd_ne ea, era_ne ea]
    rw [e2] at fin
    exact fin
theorem pd_dnew {X : Cx} {T : Tb} {W : WX} {pos : Pos} : PD X T W eDNew (.Dict [] [] pos) := PE.imp pe_dnewK fun σ H Q h => by
  obtain ⟨ρ, G, L, M, sr, h⟩ := h
  intro p hp
  exact h p (.dK []) H L hp Nxt.refl sr.mr (.dct .nil)
end Cb

set_option Elab.async false
set_option linter.all false
set_option maxRecDepth 100000
/-! Cb, part M: the rules as the printed terms use them. -/
namespace Cb
open PySem PySem.Spec PyProof.Rows L2

def visB (sc : Scope) (x : Str) : Bool := match sc.names.lookup x with
  | some .local => true
  | some .cell => true
  | some .free => true
  | _ => false
def locB (sc : Scope) (x : Str) : Bool := match sc.names.lookup x with
  | some .local => true
  | some .cell => true
  | _ => false
def glB (sc : Scope) (x : Str) : Bool := match sc.names.lookup x with
  | some .globalImplicit => true
  | _ => false
theorem vis_of {sc : Scope} {x : Str} (h : visB sc x = true) : Vis sc x := by
  unfold visB at h
  split at h
  · exact .inl (by assumption)
  · exact .inr (.inl (by assumption))
  · exact .inr (.inr (by assumption))
  · cases h
theorem loc_of {sc : Scope} {x : Str} (h : locB sc x = true) : Loc sc x := by
  unfold locB at h
  split at h
  · exact .inl (by assumption)
  · exact .inr (by assumption)
  · cases h
section
variable {Z : Wd} {k : Nat} {N : List Str} {sc scope : Scope} {X : Cx} {W : WX} {x : Str} {φ ψ : PFn} {α β : AFn} {a b e o elt tg iter : Expr} {es ifs : List Expr} {p pos apos spos : Pos} {i : Nat} {ι : IFn} {γ : GFn} {t : TFn} {own : List (Str × Nat)} {U : List Nat}
theorem gl_of (g : Gd Z k N sc X W) (h : glB sc x = true) : Gl X x := by
  unfold glB at h
  split at h
  · rename_i e
    show X.env.scope.names.lookup x = _
    rw [g.hs]; exact e
  · cases h
theorem no_of (g : Gd Z k N sc X W) (h : Z.mg x = none) : X.mg x = none := by rw [g.hm]; exact h
theorem g_var (g : Gd Z k N sc X W) (hi : N[i]? = some x) (hv : visB sc x = true) (hd : (x == ("__debug__" : Str)) = false) (hc : (x == ("__classdict__" : Str)) = false) : PD X Z.T W (eVar i) (.Name x pos) :=
  pd_var (by rw [g.hN]; exact hi) (by rw [g.hs]; exact vis_of hv) hd hc
/-- a comprehension's block -/
structure Gb (Z : Wd) (k : Nat) (N : List Str) (scope sc : Scope) (X : Cx) : Prop extends Gd Z k N (relS scope sc) X Wn where
  fnb : ∀ x, X.fn x = (scope.names.lookup x == some .cell)
theorem Gd.blk (g : Gd Z k N sc X W) (s : Shared) (H : Hp) (scope : Scope) (C : Addr) (cl : List (Str × Addr)) (fp : List Addr) : Gb Z k N scope sc (X.blk s H scope (compEnvC scope cl C X.env) fp) :=
  ⟨⟨g.hP, g.hw, g.hK, g.hm, g.hb, g.hN, by rw [← g.hs]; rfl, ⟨g.ok.calm, g.ok.nd, g.ok.hu, g.ok.hg⟩, g.room, fun u s' ⟨_, _, _, _, _, _, _, _, _, _, _, _, _, _, _, _, h⟩ => False.elim h⟩, fun _ => rfl⟩
def ownB (scope : Scope) (x : Str) : Bool := locB scope x
theorem g_nmB (g : Gb Z k N scope sc X) (hu : i ∈ U) (hi : N[i]? = some x) (h : ownB scope x = true) : GD X Z.T U (gNm i) (.Name x pos) := by
  unfold ownB locB at h
  have key : ∀ kd, scope.names.lookup x = some kd → kd ≠ .free → X.env.scope.names.lookup x = some kd := fun kd e hk => by
    rw [g.hs]
    exact lookup_relS_keep hk e
  split at h
  · rename_i e
    have := key _ e (by decide)
    exact gd_name g.ok hu (by rw [g.hN]; exact hi) (.inl this) (.inr this)
  · rename_i e
    have := key _ e (by decide)
    exact gd_name g.ok hu (by rw [g.hN]; exact hi) (.inr this) (.inl (by rw [g.fnb, e]; rfl))
  · cases h
theorem g_nm (g : Gs Z k N sc X W) (hu : i ∈ U) (hi : N[i]? = some x) (h : locB sc x = true) : GD X Z.T U (gNm i) (.Name x pos) :=
  gd_name g.ok hu (by rw [g.hN]; exact hi) (by rw [g.hs]; exact loc_of h) (.inl (g.fn x))
/-- the tests of a clause -/
def IfsD (X : Cx) (T : Tb) (t : TFn) (ifs : List Expr) : Prop := PTs X ifs (tT X T Wn t)
theorem if_nil {T : Tb} : IfsD X T tTrue [] := ptsd_nil
theorem if_one {T : Tb} {c : Expr} (h : TD X T Wn t c) : IfsD X T t [c] := pts_one h
theorem g_lc (g : Gd Z k N sc X W) (hi : ID X Z.T W ι tg iter) (ok : blkC N sc scope own = true) (hg : ∀ X', Gb Z k N scope sc X' → GD X' Z.T (own.map fun p : Str × Nat => p.2) γ tg) (ht : ∀ X', Gb Z k N scope sc X' → IfsD X' Z.T t ifs)
    (he : ∀ X', Gb Z k N scope sc X' → PD X' Z.T Wn φ elt) (hs : ∀ x, foldedSetIterable iter X.env x = pure x) : PD X Z.T W (eLc ι γ t φ (own.map fun p : Str × Nat => p.2)) (.ListComp elt [⟨tg, iter, ifs, 0⟩] scope pos) :=
  pd_lc g.ok hi (by rw [g.hN, g.hs]; exact blkOk_by ok) (fun s H C cl fp => hg _ (g.blk s H scope C cl fp)) (fun s H C cl fp => ht _ (g.blk s H scope C cl fp)) (fun s H C cl fp => he _ (g.blk s H scope C cl fp)) hs
/-- the name's own line holds the comprehension -/
def swB (sc scope : Scope) (y : Str) (py pos : Pos) : Bool := (match sc.names.lookup y with
  | some .local => true
  | _ => false) && (py.line == pos.line) && !(scope.names.any fun (n, k) => n == y && (k == .local || k == .cell))
theorem g_setLc {y : Str} {py : Pos} {χ : PFn} (g : Gs Z k N sc X W) (hu : i ∈ U) (hχ : χ = eLc ι γ t φ (own.map fun p : Str × Nat => p.2) ∨ χ = eAl (eLc ι γ t φ (own.map fun p : Str × Nat => p.2))) (hy : N[i]? = some y) (hsw : swB sc scope y py pos = true) (hi : ID X Z.T W ι tg iter)
    (ok : blkC N sc scope own = true) (hg : ∀ X', Gb Z k N scope sc X' → GD X' Z.T (own.map fun p : Str × Nat => p.2) γ tg) (ht : ∀ X', Gb Z k N scope sc X' → IfsD X' Z.T t ifs)
    (he : ∀ X', Gb Z k N scope sc X' → PD X' Z.T Wn φ elt) (hs : ∀ x, foldedSetIterable iter X.env x = pure x) : SD X Z.T W U (sSet i χ) (.Assign [.Name y py] (.ListComp elt [⟨tg, iter, ifs, 0⟩] scope pos) spos) := by
  unfold swB at hsw
  rw [Bool.and_eq_true, Bool.and_eq_true] at hsw
  obtain ⟨⟨h1, h2⟩, h3⟩ := hsw
  have hl : X.env.scope.names.lookup y = some .local := by
    rw [g.hs]
    split at h1
    · assumption
    · cases h1
  refine sd_setLc g.ok hu hχ (by rw [g.hN]; exact hy) hl (sw_true ?_ hl h2 (by simpa using h3)) hi (by rw [g.hN, g.hs]; exact blkOk_by ok) (fun s H C cl fp => hg _ (g.blk s H scope C cl fp)) (fun s H C cl fp => ht _ (g.blk s H scope C cl fp)) (fun s H C cl fp => he _ (g.blk s H scope C cl fp)) hs
  exact g.kind
theorem g_set (g : Gs Z k N sc X W) (hu : i ∈ U) (hi : N[i]? = some x) (hx : locB sc x = true) (he : PD X Z.T W φ e) (hs : ∀ env, swapsWith e (some (.Name x p)) pos.line env = pure false) : SD X Z.T W U (sSet i φ) (.Assign [.Name x p] e pos) :=
  sd_set g.ok hu (by rw [g.hN]; exact hi) (by rw [g.hs]; exact loc_of hx) (.inl (g.fn x)) he (hs _)
theorem g_aug {op : Operator} {f : D → D → Mem → Option Ev} (g : Gs Z k N sc X W) (hu : i ∈ U) (hi : N[i]? = some x) (hx : locB sc x = true) (he : PD X Z.T W φ e) (ho : OpG X Z.T (inplaceOp op) f) : SD X Z.T W U (sAug i f φ) (.AugAssign (.Name x p) op e pos) :=
  sd_aug g.ok hu (by rw [g.hN]; exact hi) (by rw [g.hs]; exact loc_of hx) (.inl (g.fn x)) he ho
theorem lookL {sc : Scope} {x : Str} (h : (sc.names.lookup x == some NameKind.local) = true) : sc.names.lookup x = some .local := by
  cases e : sc.names.lookup x with
  | none => rw [e] at h; cases h
  | some kd => rw [e] at h; cases kd <;> first | rfl | cases h
/-- a, b = e, f: the names local, on one line -/
theorem g_par {j : Nat} {y : Str} {px py pt pt2 : Pos} {kt k2 : Nat} (g : Gs Z k N sc X W) (hui : i ∈ U) (huj : j ∈ U) (hi : N[i]? = some x) (hj : N[j]? = some y) (hij : i ≠ j) (hx : (sc.names.lookup x == some NameKind.local) = true) (hy : (sc.names.lookup y == some NameKind.local) = true) (ha : AD X Z.T W α [a, b])
    (hw : ∀ env : PySem.Env, env.blockKind = .function → env.kindOf x = some .local → env.kindOf y = some .local → swappedStores [.Tuple [.Name x px, .Name y py] kt pt] (.Tuple [a, b] k2 pt2) env = pure (some [x, y])) :
    SD X Z.T W U (sPar i j α) (.Assign [.Tuple [.Name x px, .Name y py] kt pt] (.Tuple [a, b] k2 pt2) pos) := by
  have e1 : X.env.scope.names.lookup x = some .local := by rw [g.hs]; exact lookL hx
  have e2 : X.env.scope.names.lookup y = some .local := by rw [g.hs]; exact lookL hy
  have bk : X.env.blockKind = .function := by unfold PySem.Env.blockKind; rw [g.kind]; rfl
  exact sd_par g.ok hui huj (by rw [g.hN]; exact hi) (by rw [g.hN]; exact hj) hij e1 e2 ha (hw _ bk e1 e2) rfl
theorem g_for {body orelse : List Stmt} {bφ eφ : SFn} (g : Gs Z k N sc X W) (hi : ID X Z.T W ι tg iter) (hg : GD X Z.T U γ tg) (hb : BD X Z.T W U bφ body) (ho : BD X Z.T W U eφ orelse) (hs : ∀ x, foldedSetIterable iter X.env x = pure x) : SD X Z.T W U (sFor ι γ bφ eφ) (.For tg iter body orelse pos) :=
  sd_for g.ok g.pass hi hg hb ho hs
theorem g_while {c0 : Expr} {body orelse : List Stmt} {bφ eφ : SFn} (g : Gs Z k N sc X W) (hc : TD X Z.T W t c0) (hb : BD X Z.T W U bφ body) (ho : BD X Z.T W U eφ orelse) : SD X Z.T W U (sWh t bφ eφ) (.While c0 body orelse pos) :=
  sd_while g.ok g.pass hc hb ho
/-! the built-ins by name -/
theorem b_len (g : Gd Z k N sc X W) (m : Z.mg "len" = none) (l : glB sc "len" = true) (ha : AD X Z.T W α (e :: es)) (hs : (e :: es).any starB = false) : PD X Z.T W (eCallB bLen α) (.Call (.Name "len" p) (e :: es) [] pos) := pd_callB cg_len (gl_of g l) (no_of g m) PySem.boot_len ha hs (by decide) rfl
theorem b_list (g : Gd Z k N sc X W) (m : Z.mg "list" = none) (l : glB sc "list" = true) (ha : AD X Z.T W α (e :: es)) (hs : (e :: es).any starB = false) : PD X Z.T W (eCallB bList α) (.Call (.Name "list" p) (e :: es) [] pos) := pd_callTy cg_list (gl_of g l) (no_of g m) PyProof.Rows.boot_list ha hs (by decide) rfl
theorem b_tuple (g : Gd Z k N sc X W) (m : Z.mg "tuple" = none) (l : glB sc "tuple" = true) (ha : AD X Z.T W α (e :: es)) (hs : (e :: es).any starB = false) : PD X Z.T W (eCallB bTuple α) (.Call (.Name "tuple" p) (e :: es) [] pos) := pd_callTy cg_tuple (gl_of g l) (no_of g m) PyProof.Rows.boot_tuple ha hs (by decide) rfl
theorem b_max (g : Gd Z k N sc X W) (m : Z.mg "max" = none) (l : glB sc "max" = true) (ha : AD X Z.T W α (e :: es)) (hs : (e :: es).any starB = false) : PD X Z.T W (eCallB bMax α) (.Call (.Name "max" p) (e :: es) [] pos) := pd_callB (cg_max g.ok) (gl_of g l) (no_of g m) PyProof.Rows.boot_max ha hs (by decide) rfl
theorem b_min (g : Gd Z k N sc X W) (m : Z.mg "min" = none) (l : glB sc "min" = true) (ha : AD X Z.T W α (e :: es)) (hs : (e :: es).any starB = false) : PD X Z.T W (eCallB bMin α) (.Call (.Name "min" p) (e :: es) [] pos) := pd_callB (cg_min g.ok) (gl_of g l) (no_of g m) PyProof.Rows.boot_min ha hs (by decide) rfl
theorem b_all (g : Gd Z k N sc X W) (m : Z.mg "all" = none) (l : glB sc "all" = true) (ha : AD X Z.T W α (e :: es)) (hs : (e :: es).any starB = false) : PD X Z.T W (eCallB bAll α) (.Call (.Name "all" p) (e :: es) [] pos) := pd_callB (cg_all g.ok) (gl_of g l) (no_of g m) PyProof.Rows.boot_all ha hs (by decide) rfl
theorem b_any (g : Gd Z k N sc X W) (m : Z.mg "any" = none) (l : glB sc "any" = true) (ha : AD X Z.T W α (e :: es)) (hs : (e :: es).any starB = false) : PD X Z.T W (eCallB bAny α) (.Call (.Name "any" p) (e :: es) [] pos) := pd_callB (cg_any g.ok) (gl_of g l) (no_of g m) PyProof.Rows.boot_any ha hs (by decide) rfl
theorem b_sorted (g : Gd Z k N sc X W) (m : Z.mg "sorted" = none) (l : glB sc "sorted" = true) (ha : AD X Z.T W α (e :: es)) (hs : (e :: es).any starB = false) : PD X Z.T W (eCallB bSrt α) (.Call (.Name "sorted" p) (e :: es) [] pos) := pd_callB (cg_srt g.ok) (gl_of g l) (no_of g m) PyProof.Rows.boot_sorted ha hs (by decide) rfl
theorem b_repr (g : Gd Z k N sc X W) (m : Z.mg "repr" = none) (l : glB sc "repr" = true) (ha : AD X Z.T W α (e :: es)) (hs : (e :: es).any starB = false) : PD X Z.T W (eCallB bRepr α) (.Call (.Name "repr" p) (e :: es) [] pos) := pd_callB (cg_repr g.ok) (gl_of g l) (no_of g m) PyProof.Rows.boot_repr ha hs (by decide) rfl
theorem b_srtLen {q kp : Pos} (g : Gd Z k N sc X W) (m : Z.mg "sorted" = none) (l : glB sc "sorted" = true) (m2 : Z.mg "len" = none) (l2 : glB sc "len" = true) (he : PD X Z.T W φ e) (hs : starB e = false) : PD X Z.T W (eSrtLen φ) (.Call (.Name "sorted" p) [e] [⟨some "key", .Name "len" q, kp⟩] pos) :=
  pd_srtLen g.ok (gl_of g l) (no_of g m) (gl_of g l2) (no_of g m2) he hs
/-! the methods -/
def gmAppend : String → Option (D → List D → Mem → Option (Ev × Mem)) := fun ty => if ty = "list" then some mAppend else none
def gmExtend : String → Option (D → List D → Mem → Option (Ev × Mem)) := fun ty => if ty = "list" then some mExtend else none
def gmPop : String → Option (D → List D → Mem → Option (Ev × Mem)) := fun ty => if ty = "list" then some mPop else none
def gmInsert : String → Option (D → List D → Mem → Option (Ev × Mem)) := fun ty => if ty = "list" then some mInsert else none
def gmGet : String → Option (D → List D → Mem → Option (Ev × Mem)) := fun ty => if ty = "dict" then some mGet else none
theorem m_append (ho : PD X Z.T W φ o) (ha : AD X Z.T W α [e]) (hb : baseB o = true) (hs : [e].any starB = false) (hl : (apos.endLine == pos.line) = true) : PD X Z.T W (eMth gmAppend φ α) (.Call (.Attribute o "append" apos) [e] [] pos) :=
  pd_mth (fun ty g h => by
    unfold gmAppend at h
    split at h
    · rename_i et
      subst et
      cases h
      exact ⟨"list.append", PySem.F.plainAttrs_list, PySem.F.slot_list_append, PySem.F.type_list_append, mg_append⟩
    · cases h) ho ha hb hs (by simp) hl
theorem m_extend (ho : PD X Z.T W φ o) (ha : AD X Z.T W α [e]) (hb : baseB o = true) (hs : [e].any starB = false) (hl : (apos.endLine == pos.line) = true) : PD X Z.T W (eMth gmExtend φ α) (.Call (.Attribute o "extend" apos) [e] [] pos) :=
  pd_mth (fun ty g h => by
    unfold gmExtend at h
    split at h
    · rename_i et
      subst et
      cases h
      exact ⟨"list.extend", PySem.F.plainAttrs_list, PySem.F.slot_list_extend, PySem.F.type_list_extend, mg_extend⟩
    · cases h) ho ha hb hs (by simp) hl
theorem m_pop (ho : PD X Z.T W φ o) (ha : AD X Z.T W α [e]) (hb : baseB o = true) (hs : [e].any starB = false) (hl : (apos.endLine == pos.line) = true) : PD X Z.T W (eMth gmPop φ α) (.Call (.Attribute o "pop" apos) [e] [] pos) :=
  pd_mth (fun ty g h => by
    unfold gmPop at h
    split at h
    · rename_i et
      subst et
      cases h
      exact ⟨"list.pop", PySem.F.plainAttrs_list, PySem.F.slot_list_pop, PySem.F.type_list_pop, mg_pop⟩
    · cases h) ho ha hb hs (by simp) hl
theorem m_pop0 (ho : PD X Z.T W φ o) (hb : baseB o = true) (hl : (apos.endLine == pos.line) = true) : PD X Z.T W (eMth gmPop φ aNil) (.Call (.Attribute o "pop" apos) [] [] pos) :=
  pd_mth0 (fun ty g h => by
    unfold gmPop at h
    split at h
    · rename_i et
      subst et
      cases h
      exact ⟨"list.pop", PySem.F.plainAttrs_list, PySem.F.slot_list_pop, PySem.F.type_list_pop, mg_pop⟩
    · cases h) ho hb hl
theorem m_get (g : Gd Z k N sc X W) (ho : PD X Z.T W φ o) (ha : AD X Z.T W α [e, a]) (hb : baseB o = true) (hs : [e, a].any starB = false) (hl : (apos.endLine == pos.line) = true) : PD X Z.T W (eMth gmGet φ α) (.Call (.Attribute o "get" apos) [e, a] [] pos) :=
  pd_mth (fun ty f h => by
    unfold gmGet at h
    split at h
    · rename_i et
      subst et
      cases h
      exact ⟨"dict.get", PySem.F.plainAttrs_dict, PySem.F.slot_dict_get, PySem.F.type_dict_get, mg_get (by have := g.ok.hu; omega)⟩
    · cases h) ho ha hb hs (by simp) hl
/-! the defs -/
structure DefAt (Z : Wd) (x : Str) (st : Stmt) (f : Addr) (fd : FuncData) : Prop where
  fn : Fun Z.K x x st f fd
  mg : Z.mg x = some (.ref f)
theorem FnG.mono {f : Addr} {fd : FuncData} {ps : List Str} {fs : FS} {j : Nat} (F : FnG Z j f fd ps fs) (h : j ≤ k) : FnG Z k f fd ps fs :=
  fun A outer s H args vs us ds G L M Q E hr => F A outer s H args vs us ds G L M Q E ⟨hr.room.mono h, hr.g⟩
theorem def_ok {st : Stmt} {f : Addr} {fd : FuncData} {ps : List Str} {χ : SFn} (F : DefAt Z x st f fd) (S : FnScope N ps (defScope st)) (hb : ∀ X E, Gs Z k N (defScope st) X (WE E) → BD X Z.T (WE E) U χ (defBody st)) : FnG Z (k + 1) f fd ps (defF N.length χ) := by
  obtain ⟨oc, od, kV, doc, pm, an, cdv, ct, osl, rfl, lk, hcd⟩ := F.fn.ex
  exact fng_of lk hcd S hb
/-- all parameters are written, by position -/
theorem binds_pos {st : Stmt} {f : Addr} {fd : FuncData} {ps : List Str} {n : Nat} {plan : List Src} (F : DefAt Z x st f fd) (hl : plan.length = ps.length) (hp : ∀ us : List Value, us.length = n → planU [] us plan = us)  (hdf : ∀ j d, Src.df j d ∉ plan)
    (h : ∀ (kV doc pm : Value) (an : Option Addr) (cdv ct : Value) (us : List Value), us.length = n → bindArgs (PySem.W.fnOf x x (defArgs st) (defBody st) (defScope st) .none kV doc pm an cdv ct) ⟨us, []⟩ = pure (ps.zip us)) : BindsG Z.K fd ps n [] plan := by
  obtain ⟨oc, od, kV, doc, pm, an, cdv, ct, osl, rfl, lk, hcd⟩ := F.fn.ex
  refine ⟨hl, [], fun j d hm => absurd hm (hdf j d), fun s us ws _ h1 h2 => ?_⟩
  cases ws with
  | nil =>
    rw [List.append_nil, hp us h1]
    exact .of_eq (h kV doc pm an cdv ct us h1)
  | cons _ _ => cases h2
end
end Cb

set_option Elab.async false
set_option linter.all false
set_option maxRecDepth 100000
/-! Cb, part N: the law's own call. -/
namespace Cb
open PySem PySem.Spec PyProof.Rows L2

theorem rp_ints {K : PySem.W.Frag} {H : Hp} {Fb : Addr → Prop} : ∀ ns : List Int, RpAll K H Fb (ns.map V.int) (ns.map PyData.int)
  | [] => .nil
  | n :: ns => .cons (.int n) (rp_ints ns)
theorem mr_none {K : PySem.W.Frag} {H : Hp} : MR K H (fun _ => False) [] [] :=
  ⟨rfl, List.nodup_nil, fun _ h => (nomatch h), fun _ h => (nomatch h), fun _ h => h.elim, fun n a o h => by simp at h⟩
section
variable {P : Program} {w : World} {K : PySem.W.Frag} {T : Tb} {mg mb : Str → Option Value} {k : Nat} {f a : Addr} {fd : FuncData} {x : Str} {fs : FS} {s : Shared} {us : List Value} {ns : List Int} {M' : Mem}
/-- the script's own object -/
abbrev scriptObj (us : List Value) : Obj := { cls := .type "list", data := .seq us.toArray }
theorem run_law {H : Hp} (kin : K.In s.heap) (nsG : s.heap.Ns mainGlobals mg) (nsB : s.heap.Ns builtinsNs mb) (bl : ∀ y : Str, y ≠ "__name__" → mb y = bootBuiltins y) (lim : s.heap.NoLimit) (gens : s.gens = #[]) (at_ : s.heap.get? a = some (scriptObj us))
    (room : RoomG k callerA) (F : ∀ base : Heap, K.In base → base.Ns mainGlobals mg → FnG ⟨P, w, K, mg, base, T⟩ k f fd [x] fs) (hb : ∀ u : Value, BindsTo s fd ⟨[u], []⟩ [(x, u)]) (hfs : fs [.frz (ns.map .int)] [] = .ok (.d (.p (.bool true))) M')
    (ok : HOk P w H s.heap) (fl : FL K H (fun _ => False) a (ns.map V.int)) (one : ∀ b u, H b = some u → b = a ∧ ∃ o ys, u = .frz o (.lst ys)) (apart : ∀ o, K.lookup a = some o → H a = none) :
    codeAny (model P w) callerA (.call (.ref f) ⟨[.ref a], []⟩) (fun r s' => r = .ok (.ret (.bool true)) ∧ PySem.OldK s.heap s'.heap ∧ s'.os = s.os ∧ AllBare s'.gens) s := by
  -- what is not the script lies in the base
  have inB : ∀ {b : Addr} {o : Obj}, s.heap.get? b = some o → (b = a → H a = none) → (hidT s.heap H).get? b = some o := fun {b o} e h => by
    refine hidT_get e ?_
    cases q : H b with
    | none => rfl
    | some u =>
      have z := (one b u q).1
      rw [z, h z] at q
      cases q
  have names : ∀ {b : Addr} {m : Str → Option Value}, s.heap.Ns b m → (hidT s.heap H).Ns b m := fun {b m} ⟨o, es, ep, e, dd, r⟩ => by
    refine ⟨o, es, ep, inB e fun z => ?_, dd, r⟩
    rw [z, at_] at e
    cases e
    cases (show Data.seq us.toArray _ = Data.dict es ep from dd)
  have kB : K.In (hidT s.heap H) := fun b o e => inB (kin b o e) fun z => apart o (by rw [← z]; exact e)
  have md : Mod K mg (hidT s.heap H) := ⟨kB, names nsG, ⟨mb, names nsB, bl⟩, let ⟨mc, l1, l2⟩ := lim; ⟨mc, names l1, l2⟩⟩
  have e0 : Env0 P w K mg (hidT s.heap H) callerA [] s H := ⟨rfl, md, fun b o e => of_hidT e, Nat.le_of_eq (hidT_size _ _), trivial, fun b hm => (nomatch (show b ∈ ([] : List Addr) from hm)), ok, .of_eq gens⟩
  have post : Post K T H (fun _ => False) [] [] (fs [.frz (ns.map .int)] []) (fun v _ => v = .bl true) (fun _ _ _ => False) := by
    rw [hfs]
    intro v H' L' _ _ r
    exact r.bool
  have fl2 : FL K H (Fbd [] [] fun _ => False) a (ns.map V.int) := fl.ext ⟨fun b o e h => ⟨e, fun z => z.elim (fun ⟨n, o, q, _⟩ => by simp at q) h⟩⟩
  refine codeAny_mono (F _ kB (names nsG) callerA [] s H ⟨[.ref a], []⟩ [.ref a] [.ref a] [.frz (ns.map .int)] _ [] [] _ _ room e0 (hb (.ref a)) (.cons rfl .nil) rfl mr_none (.cons (.frz fl2 (rp_ints ns)) .nil) post) fun r s' h => ?_
  cases r with
  | error e =>
    obtain ⟨_, _, _, _, _, _, _, _, _, _, _, _, z⟩ := h
    exact z.elim
  | ok c =>
    cases c with
    | ret u =>
      obtain ⟨v, H', os, bare, un, ok', rv, q⟩ := h
      have q : v = .bl true := q
      subst q
      cases (show u = Value.bool true from rv)
      refine ⟨rfl, PySem.OldK.of_keep fun b o e => ?_, os, bare⟩
      cases q : H b with
      | none => exact un.keep b o e q (by simp [frs]) (by simp)
      | some u =>
        obtain ⟨_, ob, ys, rfl⟩ := one b u q
        have e1 := (ok b _ q).1
        rw [e] at e1
        cases e1
        exact (ok' b _ (un.frzs b _ _ q)).1
    | next => exact False.elim h
    | brk => exact False.elim h
    | cont => exact False.elim h
/-- THE HEAD -/
theorem law_head (kin : K.In s.heap) (nsG : s.heap.Ns mainGlobals mg) (nsB : s.heap.Ns builtinsNs mb) (bl : ∀ y : Str, y ≠ "__name__" → mb y = bootBuiltins y) (lim : s.heap.NoLimit) (gens : s.gens = #[]) (at_ : s.heap.get? a = some (scriptObj us))
    (hi : IntsAre us ns) (hz : ns.length ≤ sizeLine) (room : RoomG k callerA) (F : ∀ base : Heap, K.In base → base.Ns mainGlobals mg → FnG ⟨P, w, K, mg, base, T⟩ k f fd [x] fs) (hb : ∀ u : Value, BindsTo s fd ⟨[u], []⟩ [(x, u)]) (hfs : fs [.frz (ns.map .int)] [] = .ok (.d (.p (.bool true))) M') :
    codeAny (model P w) callerA (.call (.ref f) ⟨[.ref a], []⟩) (fun r s' => r = .ok (.ret (.bool true)) ∧ PySem.OldK s.heap s'.heap ∧ s'.os = s.os ∧ AllBare s'.gens) s := by
  have rv := vals_ints hi
  have lz : us.length = ns.length := hi.length
  cases hk : K.lookup a with
  | some o =>
    have e := kin a o hk
    rw [at_] at e
    cases e
    exact run_law (H := fun _ => none) kin nsG nsB bl lim gens at_ room F hb hfs (fun b u z => by cases z) (.inr ⟨_, us.toArray, _, hk, rfl, rfl, rfl, by rw [List.size_toArray, lz]; exact hz, by simpa using rv⟩) (fun b u z => by cases z) fun _ _ => rfl
  | none =>
    refine run_law (H := fun b => if b = a then some (.frz (scriptObj us) (.lst (ns.map V.int))) else none) kin nsG nsB bl lim gens at_ room F hb hfs (fun b u z => ?_) (.inl ⟨.inr ⟨scriptObj us, if_pos rfl⟩, id⟩) (fun b u z => ?_) fun o e => by rw [hk] at e; cases e
    · by_cases hb : b = a
      · have z' := (if_pos hb).symm.trans z
        cases z'
        subst hb
        exact ⟨at_, by rw [List.length_map]; exact hz, us, _, rv, at_⟩
      · have z' := (if_neg hb).symm.trans z
        cases z'
    · by_cases hb : b = a
      · have z' := (if_pos hb).symm.trans z
        cases z'
        exact ⟨hb, _, _, rfl⟩
      · have z' := (if_neg hb).symm.trans z
        cases z'
end
/-- what k_head leaves -/
theorem walk_g {l : PySem.W.OpenLaw} {n k : Nat} {q : Program} {loose : List Str} {XP : (Str → Option Value) → Heap → Prop} {YP : World → Heap → Prop} {d : DefRec} {K : Params → PySem.W.Frag} {x : Str} {fs : FS}
    (hn : l.most = some n) (hn2 : n ≤ sizeLine) (hdf : d.params.defaults = []) (hr : Room k callerA) (hY : ∀ (w : World) (h : Heap), YP w h → (K w.params).In h)
    (F : ∀ (w : World) (mg : Str → Option Value) (fa : Addr) (h : Heap), (K w.params).In h → h.Ns mainGlobals mg → mg d.name = some (.ref fa) →
      ∃ (fd : FuncData) (T : Tb), (∀ (s : Shared) (u : Value), BindsTo s fd ⟨[u], []⟩ [(x, u)]) ∧ ∀ base : Heap, (K w.params).In base → base.Ns mainGlobals mg → FnG ⟨l.prog, w, K w.params, mg, base, T⟩ k fa fd [x] fs)
    (hfs : ∀ ns : List Int, ns.length ≤ n → ∃ M', fs [.frz (ns.map .int)] [] = .ok (.d (.p (.bool true))) M') :
    PySem.W.WalkO q loose XP YP l.row.toRowW d [] (fun f vs => PySem.call f vs) := by
  refine Att.attach_call hn hdf fun w s₀ s₁ mg mb fa o pm cd doc a vs ns G Y ho hd hcd hmg hobj hints hlen hg => ?_
  have kin := hY w _ Y
  obtain ⟨fd, T, hb, hF⟩ := F w mg fa _ kin G.T.g hmg
  obtain ⟨M', e⟩ := hfs ns hlen
  exact law_head kin G.T.g G.T.b G.T.builtins G.T.nolimit hg hobj hints (Nat.le_trans hlen hn2) ⟨hr, rfl⟩ hF (fun u => hb s₁ u) e
end Cb

set_option Elab.async false
set_option linter.all false
set_option maxRecDepth 100000
/-! Cb, part O: pairs of names. -/
namespace Cb
open PySem PySem.Spec PyProof.Rows L2
def strd : Expr → Bool
  | .Starred .. => true
  | _ => false
theorem sw2 {x y : Str} {a b : Expr} {px py pt pt2 : Pos} {kt k2 : Nat} (hxy : decide (x = y) = false) (hl : (py.line == px.line) = true) (ha : strd a = false) (hb : strd b = false) (hf : [a, b].all (foldedForSure 8) = false) (hc : [a, b].all (constantsAlone 8) = false) :
    ∀ env : PySem.Env, env.blockKind = .function → env.kindOf x = some .local → env.kindOf y = some .local → swappedStores [.Tuple [.Name x px, .Name y py] kt pt] (.Tuple [a, b] k2 pt2) env = pure (some [x, y]) := by
  intro env h1 h2 h3
  have hl' : py.line = px.line := by simpa using hl
  have ne : x ≠ y := of_decide_eq_false hxy
  have e1 : [x, y].eraseDups = [x, y] := by
    have : (y == x) = false := by simpa using fun z => ne z.symm
    simp [List.eraseDups, List.eraseDupsBy, List.eraseDupsBy.loop, this]
  have k1 : (some NameKind.local == some NameKind.local && px.line == (Expr.Name x px).pos.line) = true := by
    have : (Expr.Name x px).pos = px := rfl
    rw [this]
    simp
  unfold swappedStores
  simp only [h1, h2, h3, List.filterMap_cons, List.filterMap_nil, List.head?_cons, Option.map_some, Option.getD_some, hl', hf, hc, List.any_cons, List.any_nil, List.length_cons, List.length_nil]
  rw [if_pos k1]
  simp only [if_pos k1, e1]
  rw [if_neg (by decide), if_neg ?side]
  · rfl
  · rw [Bool.or_eq_true, Bool.or_eq_true, not_or, not_or]
    refine ⟨?_, ?_, by decide⟩
    · cases a <;> first
        | exact Bool.noConfusion ha
        | exact Bool.false_ne_true
    · cases b <;> first
        | exact Bool.noConfusion hb
        | exact Bool.false_ne_true
/-- one of the names is shared with a block: stored from the left -/
theorem sw2n {x y : Str} {a b : Expr} {px py pt pt2 : Pos} {kt k2 : Nat} : ∀ env : PySem.Env, env.kindOf x ≠ some .local ∨ env.kindOf y ≠ some .local → swappedStores [.Tuple [.Name x px, .Name y py] kt pt] (.Tuple [a, b] k2 pt2) env = pure none := by
  intro env h
  unfold swappedStores
  rcases h with h | h
  · have e : (env.kindOf x == some NameKind.local) = false := by simpa using h
    simp only [List.filterMap_cons, List.filterMap_nil, e, Bool.false_and, Bool.false_eq_true, if_false]
    cases (env.kindOf y == some NameKind.local && py.line == (([Expr.Name x px, Expr.Name y py].head?.map (·.pos.line)).getD 0)) <;> (repeat' split) <;> first | rfl | (exfalso; simp_all; done)
  · have e : (env.kindOf y == some NameKind.local) = false := by simpa using h
    simp only [List.filterMap_cons, List.filterMap_nil, e, Bool.false_and, Bool.false_eq_true, if_false]
    cases (env.kindOf x == some NameKind.local && px.line == (([Expr.Name x px, Expr.Name y py].head?.map (·.pos.line)).getD 0)) <;> (repeat' split) <;> first | rfl | (exfalso; simp_all; done)
section
variable {Z : Wd} {k : Nat} {N : List Str} {sc : Scope} {X : Cx} {W : WX} {x y : Str} {α : AFn} {a b : Expr} {pos px py pt pt2 : Pos} {kt k2 i j : Nat} {U : List Nat}
theorem Gd.nx (g : Gd Z k N sc X W) : Gd Z k N sc X Wn := ⟨g.hP, g.hw, g.hK, g.hm, g.hb, g.hN, g.hs, g.ok, g.room, fun u s' ⟨_, _, _, _, _, _, _, _, _, _, _, _, _, _, _, _, h⟩ => False.elim h⟩
theorem g_parN (g : Gs Z k N sc X W) (hui : i ∈ U) (huj : j ∈ U) (hi : N[i]? = some x) (hj : N[j]? = some y) (hx : locB sc x = true) (hy : locB sc y = true) (hc : ((sc.names.lookup x == some NameKind.local) && (sc.names.lookup y == some NameKind.local)) = false) (ha : AD X Z.T W α [a, b]) :
    SD X Z.T W U (sPar i j α) (.Assign [.Tuple [.Name x px, .Name y py] kt pt] (.Tuple [a, b] k2 pt2) pos) := by
  have lx : Loc X.env.scope x := by rw [g.hs]; exact loc_of hx
  have ly : Loc X.env.scope y := by rw [g.hs]; exact loc_of hy
  have two : PGs X [.Name x px, .Name y py] (gCons (gName i) (gCons (gName j) gNil)) := pgs_cons (pg_name g.ok.nd (by rw [g.hN]; exact hi) lx (.inl (g.fn x))) (pgs_cons (pg_name g.ok.nd (by rw [g.hN]; exact hj) ly (.inl (g.fn y))) pgs_nil)
  have dif : X.env.kindOf x ≠ some .local ∨ X.env.kindOf y ≠ some .local := by
    by_cases h1 : X.env.kindOf x = some .local
    · refine .inr fun h2 => ?_
      have e1 : sc.names.lookup x = some .local := by rw [← g.hs]; exact h1
      have e2 : sc.names.lookup y = some .local := by rw [← g.hs]; exact h2
      rw [e1, e2] at hc
      cases hc
    · exact .inl h1
  refine PS.imp' (ps_asg (pe_tup ha) (pg_tup g.ok.calm two) rfl (sw2n _ dif)) fun D σ H h => ?_
  obtain ⟨ρ, G, L, M, sr, h⟩ := h
  refine ⟨ρ, G, L, M, sr, (PostA.bindS h).mono fun vs H1 ⟨ds, L1, M1, n1, m1, r1, h1⟩ => ?_⟩
  split at h1
  · cases r1 with
    | @cons v1 _ _ _ a1 a2 =>
    cases a2 with
    | @cons v2 _ _ _ b1 b2 =>
    cases b2
    refine ⟨by rw [sizeLine_eq]; simp, fun p hp => ⟨p, _, rfl, .inl (.inl upd_same), rfl, v1, _, rfl, v2, _, rfl, rfl, ?_⟩⟩
    have nf : Nxt H1 L1 M1 (upd H1 p (.tup [v1, v2])) L1 M1 := Nxt.fresh hp
    have mf : MR X.K (upd H1 p (.tup [v1, v2])) G L1 M1 := m1.fresh hp
    exact h1 _ _ L1 nf ((((sr.ext n1 m1).ext nf mf).set (a1.ext nf)).set (b1.ext nf)) ((Agr.set hui).trans (.set huj))
  · exact h1.elim
end
theorem binds_kw {Z : Wd} {x : Str} {st : Stmt} {f : Addr} {fd : FuncData} {ps ks : List Str} {n : Nat} {plan : List Src} (F : DefAt Z x st f fd) (hl : plan.length = ps.length) (hdf : ∀ j d, Src.df j d ∉ plan)
    (h : ∀ (kV doc pm : Value) (an : Option Addr) (cdv ct : Value) (us ws : List Value), us.length = n → ws.length = ks.length → bindArgs (PySem.W.fnOf x x (defArgs st) (defBody st) (defScope st) .none kV doc pm an cdv ct) ⟨us, ks.zip ws⟩ = pure (ps.zip (planU [] (us ++ ws) plan))) : BindsG Z.K fd ps n ks plan := by
  obtain ⟨oc, od, kV, doc, pm, an, cdv, ct, osl, rfl, lk, hcd⟩ := F.fn.ex
  exact ⟨hl, [], fun j d hm => absurd hm (hdf j d), fun s us ws _ h1 h2 => .of_eq (h kV doc pm an cdv ct us ws h1 h2)⟩
end Cb

set_option Elab.async false
set_option linter.all false
set_option maxRecDepth 100000
/-! Cb, part P: sets whose members are tuples of whole numbers and texts, or such themselves. -/
namespace Cb
open PySem PySem.Spec PyProof.Rows L2

section
variable {P : Program} {w : World} {A : Around} {E : Value → Shared → Prop} {s : Shared}
abbrev mk_ (P : Program) (w : World) := mixKind P w
theorem flat_cls {k : Key} {v : Value} (h : keyIs k v = true) (n : Nat) : ofAClassStatement n v = pure false := by
  rcases keyIs_shape h with ⟨i, t, _, rfl⟩ | ⟨x, t, _, rfl⟩ <;> cases n <;> rfl
theorem flat_scn {k : Key} {v : Value} (h : keyIs k v = true) : v.scannable = true := by
  rcases keyIs_shape h with ⟨i, t, _, rfl⟩ | ⟨x, t, _, rfl⟩ <;> rfl
theorem flat_hsh {k : Key} {v : Value} (h : keyIs k v = true) (n : Nat) : ∃ b, hashByValue n v = pure b := by
  rcases keyIs_shape h with ⟨i, t, _, rfl⟩ | ⟨x, t, _, rfl⟩
  · exact ⟨true, by cases n <;> rfl⟩
  · exact ⟨false, by cases n <;> rfl⟩
/-- the tuple of keys at b -/
abbrev KT (P : Program) (w : World) (h : Heap) (ks : List Key) (b : Addr) : Prop := IsTupleKey (mixKind P w) h ks b
abbrev kth (P : Program) (w : World) (ks : List Key) : Int := tupleKeyHash (mixKind P w) ks
theorem kt_all {ks : List Key} {vs : List Value} (h : ItemsAre (mixKind P w) ks vs) : ∀ v ∈ vs, ∃ k, keyIs k v = true := by
  induction h with
  | nil => exact fun v hv => nomatch hv
  | cons h1 _ ih =>
    intro v hv
    rcases List.mem_cons.mp hv with rfl | hv
    · exact ⟨_, h1⟩
    · exact ih v hv
theorem kt_cls {ks : List Key} {b : Addr} {Q : Bool → Shared → Prop} (hk : KT P w s.heap ks b) (q : Q false s) : wpAny (model P w) A (ofAClassStatement 8 (.ref b)) Q E s := by
  have ty := hk.typeIs
  obtain ⟨ob, its, cap, e1, _, e3, e4⟩ := hk
  unfold ofAClassStatement
  refine wpAny_bind (wpAny_typeOf ty ?_)
  dsimp only
  have tt : (("tuple" : String) == "tuple") = true := by decide
  simp only [tt, if_true, Bool.not_true, Bool.false_eq_true, if_false]
  try refine wpAny_bind (wpAny_pure ?_)
  try simp only [Bool.not_true, Bool.false_eq_true, if_false]
  show wpAny _ _ (seqItems? (.ref b) >>= _) _ _ s
  refine wpAny_bind (wpAny_seqItems e1 e3 ?_)
  dsimp only
  refine wpAny_bind ?_
  show wpAny _ _ (forIn its _ _) _ _ s
  rw [← Array.forIn_toList]
  refine wpAny_forIn_list _ (fun left r z => (r.1 = none ∧ z = s) ∧ ∀ v ∈ left, ∃ k, keyIs k v = true) _ ?_ ?_ _ _ ⟨⟨rfl, rfl⟩, kt_all e4⟩
  · rintro v left r z ⟨⟨_, rfl⟩, al⟩
    obtain ⟨k, hkv⟩ := al v List.mem_cons_self
    rw [flat_cls hkv]
    refine wpAny_bind (wpAny_pure ?_)
    simp only [Bool.false_eq_true, if_false]
    exact wpAny_pure ⟨⟨rfl, rfl⟩, fun u hu => al u (List.mem_cons_of_mem _ hu)⟩
  · rintro ⟨r1, r2⟩ z ⟨⟨hr, rfl⟩, _⟩
    dsimp only at hr
    subst hr
    exact wpAny_pure q
theorem kt_hsh {ks : List Key} {b : Addr} {Q : Bool → Shared → Prop} (hk : KT P w s.heap ks b) (q : ∀ y, Q y s) : wpAny (model P w) A (hashByValue 8 (.ref b)) Q E s := by
  have ty := hk.typeIs
  obtain ⟨ob, its, cap, e1, _, e3, e4⟩ := hk
  unfold hashByValue
  refine wpAny_bind (wpAny_specialOf ty F.slot_tuple_hash.lookup ?_)
  show wpAny _ _ (seqItems? (.ref b) >>= _) _ _ s
  refine wpAny_bind (wpAny_seqItems e1 e3 ?_)
  refine wpAny_bind ?_
  show wpAny _ _ (forIn its _ _) _ _ s
  rw [← Array.forIn_toList]
  refine wpAny_forIn_list _ (fun left r z => (r.1 = none ∧ z = s) ∧ ∀ v ∈ left, ∃ k, keyIs k v = true) _ ?_ ?_ _ _ ⟨⟨rfl, rfl⟩, kt_all e4⟩
  · rintro v left r z ⟨⟨_, rfl⟩, al⟩
    obtain ⟨k, hkv⟩ := al v List.mem_cons_self
    obtain ⟨y, ey⟩ := flat_hsh hkv 7
    rw [ey]
    refine wpAny_bind (wpAny_pure ?_)
    cases y with
    | true =>
      simp only [Bool.not_true, Bool.false_eq_true, if_false]
      exact wpAny_pure ⟨⟨rfl, rfl⟩, fun u hu => al u (List.mem_cons_of_mem _ hu)⟩
    | false =>
      simp only [Bool.not_false, if_true]
      exact wpAny_pure (wpAny_pure (q false))
  · rintro ⟨r1, r2⟩ z ⟨⟨hr, rfl⟩, _⟩
    dsimp only at hr
    subst hr
    exact wpAny_pure (q true)
theorem kt_seen {ks : List Key} {b : Addr} {Q : Bool → Shared → Prop} (hk : KT P w s.heap ks b) {ys : List Value} (hy : ∀ y ∈ ys, ∃ ks' c, y = Value.ref c ∧ KT P w s.heap ks' c) (q : Q false s) : wpAny (model P w) A (searchCouldBeSeen (.ref b) ys) Q E s := by
  unfold searchCouldBeSeen
  refine wpAny_bind ?_
  refine wpAny_forIn_list _ (fun left r z => (r.1 = none ∧ z = s) ∧ ∀ y ∈ left, ∃ ks' c, y = Value.ref c ∧ KT P w s.heap ks' c) _ ?_ ?_ _ _ ⟨⟨rfl, rfl⟩, hy⟩
  · rintro v left r z ⟨⟨_, rfl⟩, al⟩
    obtain ⟨ks', c, rfl, hc⟩ := al v List.mem_cons_self
    have al2 : ∀ y ∈ left, ∃ ks' c, y = Value.ref c ∧ KT P w z.heap ks' c := fun u hu => al u (List.mem_cons_of_mem _ hu)
    dsimp only
    by_cases hv : (b == c || (carriedByValue (.ref b) && carriedByValue (.ref c))) = true
    · exact wp_if_pos hv (wpAny_pure ⟨⟨rfl, rfl⟩, al2⟩)
    · refine wp_if_neg hv (wpAny_bind (wpAny_eqIsQuiet_tuple hk ?_))
      simp only [Bool.not_true, Bool.false_eq_true, if_false]
      refine wpAny_bind (wpAny_eqIsQuiet_tuple hc ?_)
      simp only [Bool.not_true, Bool.false_eq_true, if_false]
      refine wpAny_bind (kt_cls hk ?_)
      simp only [Bool.false_eq_true, if_false]
      refine wpAny_bind (kt_cls hc ?_)
      simp only [Bool.false_eq_true, if_false]
      exact wpAny_pure ⟨⟨rfl, rfl⟩, al2⟩
  · rintro ⟨r1, r2⟩ z ⟨⟨hr, rfl⟩, _⟩
    dsimp only at hr
    subst hr
    exact wpAny_pure q

/-! ### the members in their slots -/
abbrev Mb := Addr × List Key
def mbRows (P : Program) (w : World) (L : List Mb) : List (Int × Value) := L.map fun p => (kth P w p.2, Value.ref p.1)
/-- the set at a with the members L, as it lies in the heap -/
structure TS_ (P : Program) (w : World) (h : Heap) (a : Addr) (L : List Mb) (es : Array (Int × Value)) (ep : Nat) (t : SetTable) : Prop where
  obj : ∃ o, h.get? a = some o ∧ o.ExactSet ∧ o.data = .set es ep t
  row : es.toList = mbRows P w L
  tab : TabOk t (L.map fun p => kth P w p.2)
  dif : (L.map (·.2)).Nodup
  mem : ∀ p ∈ L, KT P w h p.2 p.1
  ord : w.params.followText "set-order" = true ∨ t.led = true
  spc : L.length * 5 < t.mask * 3
  few : L.length < 64
variable {a : Addr} {L : List Mb} {es : Array (Int × Value)} {ep : Nat} {t : SetTable}
theorem rows_len {L : List Mb} {es : Array (Int × Value)} (r : es.toList = mbRows P w L) : es.size = L.length := by
  rw [← Array.length_toList, r, mbRows, List.length_map]
theorem TS_.fits (R : TS_ P w s.heap a L es ep t) : t.fits es.size = true := by
  have z1 := R.tab.sz
  rw [List.length_map] at z1
  have z2 := rows_len R.row
  have z3 := R.spc
  unfold SetTable.fits SetTable.fill
  rw [R.tab.dm, Bool.and_eq_true, beq_iff_eq, decide_eq_true_eq]
  show t.place.size = es.size ∧ t.place.size + 0 ≤ t.mask
  omega
theorem rows_at {L : List Mb} {es : Array (Int × Value)} (r : es.toList = mbRows P w L) {i : Nat} {p : Mb} (h : L[i]? = some p) : es[i]? = some (kth P w p.2, Value.ref p.1) := by
  rw [← Array.getElem?_toList, r, mbRows, List.getElem?_map, h]
  rfl
theorem nth_none (m : Nat) : ∀ (n : Nat) (p : SetTable.Probe), p.dummy = none → (nth m p n).dummy = none
  | 0, _, h => h
  | n + 1, p, h => nth_none m n (adv m p) (by unfold adv; split <;> exact h)
/-- the search, c steps on -/
theorem ts_search (R : TS_ P w s.heap a L es ep t) {x : Addr} {ks : List Key} (hx : KT P w s.heap ks x) (hu : A.units < cLine) {N : Nat} (hN : N < 10 * SetTable.turns t.mask)
    (n1 : way t.mask (kth P w ks) N ∉ t.place.toList) (n2 : ∀ c, c < N → way t.mask (kth P w ks) c ∈ t.place.toList) {Q : SetFound → Shared → Prop} (yes : ks ∈ L.map (·.2) → Q (.there none) s) (no : ks ∉ L.map (·.2) → Q (.free (way t.mask (kth P w ks) N) false) s) :
    ∀ (f c : Nat) (st : Option SetTable.Probe), st.getD (t.probeStart (kth P w ks)) = nth t.mask (runAt t.mask (SetTable.bits (kth P w ks) % (t.mask + 1)) (SetTable.bits (kth P w ks))) c → c ≤ N → N - c < f →
      (∀ (i : Nat) p, L[i]? = some p → p.2 = ks → ∃ c', c ≤ c' ∧ c' < N ∧ t.place.toList[i]? = some (way t.mask (kth P w ks) c')) → wpAny (model P w) A (setSearchFrom a (.ref x) (kth P w ks) true f st) Q E s := by
  obtain ⟨ob, g1, g2, g3⟩ := R.obj
  have gw : ¬ t.gaveWay = true := by unfold SetTable.gaveWay; rw [mask_odd R.tab.mok]; decide
  have sz1 := R.tab.sz
  rw [List.length_map] at sz1
  have hashes : ∀ (i : Nat) p, L[i]? = some p → (fun i => (es[i]?.map (·.1)).getD 0) i = kth P w p.2 := fun i p hp => by
    show (es[i]?.map (·.1)).getD 0 = _
    rw [rows_at R.row hp]; rfl
  generalize hpr : kth P w ks = hv at *
  generalize hr0 : runAt t.mask (SetTable.bits hv % (t.mask + 1)) (SetTable.bits hv) = r0
  have wayE : ∀ q, (nth t.mask r0 q).j = way t.mask hv q := fun q => by rw [← hr0]
  have dum : ∀ q, (nth t.mask r0 q).dummy = none := fun q => nth_none _ _ _ (by rw [← hr0]; rfl)
  intro f
  induction f with
  | zero => exact fun c st _ _ hf _ => absurd hf (Nat.not_lt_zero _)
  | succ f ih =>
    intro c st hst hc hf ahead
    have shift : ∀ q, nth t.mask (nth t.mask r0 c) q = nth t.mask r0 (c + q) := fun q => (nth_add t.mask c r0 q).symm
    rw [setSearchFrom_succ]
    refine wpAny_bind (wpAny_setState_of g1 g3 R.fits ?_)
    dsimp only
    refine wp_if_neg gw ?_
    try refine wpAny_bind (wpAny_pure ?_)
    have sp := go_spec t R.tab.ris R.tab.dm (fun i => (es[i]?.map (·.1)).getD 0) hv (10 * SetTable.turns t.mask) (N - c) (nth t.mask r0 c) (dum c) (by omega)
      (fun q hq => by rw [shift, wayE]; exact n2 _ (by omega)) (by rw [shift, wayE, show c + (N - c) = N by omega]; exact n1)
    rcases sp with ⟨q, i, hq, hi, hh, before, e⟩ | ⟨before, e⟩
    · have e2 : t.probe (fun i => (es[i]?.map (·.1)).getD 0) hv (st.getD (t.probeStart hv)) = some (.candidate (way t.mask hv (c + q)) i (nth t.mask r0 (c + (q + 1)))) := by
        rw [hst, ← wayE, ← shift, ← shift]; exact e
      rw [e2]
      dsimp only
      rw [shift, wayE] at hi
      have il : i < L.length := by
        have := (List.getElem?_eq_some_iff.mp hi).1
        rw [Array.length_toList] at this
        omega
      obtain ⟨p, hp⟩ : ∃ p, L[i]? = some p := ⟨_, List.getElem?_eq_getElem il⟩
      have pm : p ∈ L := List.mem_of_getElem? hp
      have slot := slot_live R.tab.ris hi
      have main : wpAny (model P w) A (searchRest a (.ref x) hv true f es t (way t.mask hv (c + q)) i (nth t.mask r0 (c + (q + 1)))) Q E s := by
        unfold searchRest
        rw [rows_at R.row hp]
        dsimp only
        refine wpAny_bind (wpAny_holding (wpAny_eqBool_tuple hu (R.mem p pm) hx (wpAny_bind (wpAny_setState_of g1 g3 R.fits ?_))))
        dsimp only
        by_cases same : p.2 = ks
        · exact wp_if_pos (by simp [same]) (wpAny_pure (yes (List.mem_map.mpr ⟨p, pm, same⟩)))
        · refine wp_if_neg (by simp [same]) ?_
          try refine wpAny_bind (wpAny_pure ?_)
          rw [sameMem]
          dsimp only
          simp only [if_true, slot, rows_at R.row hp]
          refine wpAny_bind (wpAny_isSame_ref_self (wpAny_bind (wpAny_pure ?_)))
          simp only [if_true]
          refine wp_if_neg (by simp [same]) (ih (c + (q + 1)) _ rfl (by omega) (by omega) fun i2 p2 h2 e3 => ?_)
          obtain ⟨c2, b1, b2, b3⟩ := ahead i2 p2 h2 e3
          refine ⟨c2, ?_, b2, b3⟩
          by_cases lt : c2 < c + q
          · exact absurd ((hashes i2 p2 h2).trans ((congrArg (kth P w) e3).trans hpr)) (before (c2 - c) i2 (by omega) (by rw [shift, wayE, show c + (c2 - c) = c2 by omega]; exact b3))
          · by_cases eq : c2 = c + q
            · rw [eq] at b3
              have s2 := slot_live R.tab.ris b3
              rw [slot] at s2
              injection s2 with s2
              rw [← s2, hp] at h2
              exact absurd ((congrArg Prod.snd (Option.some.inj h2)).trans e3) same
            · omega
      by_cases ld : t.led = true
      · refine wp_if_neg (by simp [ld]) ?_
        try refine wpAny_bind (wpAny_pure ?_)
        exact main
      · refine wp_if_pos (by simp [ld]) (wpAny_bind (kt_seen hx (fun y hy => ?_) ?_))
        · obtain ⟨e0, he, rfl⟩ := List.mem_map.mp hy
          have : e0 ∈ es.toList := by
            have : e0 ∈ es ∧ e0.1 = hv := by simpa using he
            simpa using this.1
          rw [R.row] at this
          obtain ⟨p2, m2, rfl⟩ := List.mem_map.mp this
          exact ⟨p2.2, p2.1, rfl, R.mem p2 m2⟩
        · refine wp_if_neg (by decide) ?_
          try refine wpAny_bind (wpAny_pure ?_)
          exact main
    · have e2 : t.probe (fun i => (es[i]?.map (·.1)).getD 0) hv (st.getD (t.probeStart hv)) = some (.empty (way t.mask hv N) none) := by
        rw [hst, ← wayE, show N = c + (N - c) by omega, ← shift]; exact e
      rw [e2]
      dsimp only
      refine wpAny_pure (no fun hm => ?_)
      obtain ⟨p2, m2, e3⟩ := List.mem_map.mp hm
      obtain ⟨i2, l2, e4⟩ := List.getElem_of_mem m2
      have h2 : L[i2]? = some p2 := by rw [List.getElem?_eq_getElem l2, e4]
      obtain ⟨c2, b1, b2, b3⟩ := ahead i2 p2 h2 e3
      exact before (c2 - c) i2 (by omega) (by rw [shift, wayE, show c + (c2 - c) = c2 by omega]; exact b3) ((hashes i2 p2 h2).trans ((congrArg (kth P w) e3).trans hpr))
end
end Cb

set_option Elab.async false
set_option linter.all false
set_option maxRecDepth 100000
/-! Cb, part Q: adding to a set of tuples. -/
namespace Cb
open PySem PySem.Spec PyProof.Rows L2

section
variable {P : Program} {w : World} {A : Around} {E : Value → Shared → Prop} {s : Shared}
theorem range_all {α : Type} : ∀ L : List α, (List.range L.length).filterMap (fun i => L[i]?) = L
  | [] => rfl
  | x :: L => by
    rw [List.length_cons, List.range_succ_eq_map, List.filterMap_cons_some (b := x) (by rfl), List.filterMap_map]
    exact congrArg (x :: ·) (range_all L)
theorem rows_pick {L : List Mb} {es : Array (Int × Value)} (r : es.toList = mbRows P w L) : ∀ l : List Nat, (∀ i ∈ l, i < L.length) →
    l.filterMap (fun i => es[i]?) = mbRows P w (l.filterMap fun i => L[i]?) ∧ ((l.filterMap fun i => L[i]?).map fun p => kth P w p.2) = l.map fun i => (es.map (·.1)).getD i 0
  | [], _ => ⟨rfl, rfl⟩
  | i :: l, h => by
    have hi := h i List.mem_cons_self
    obtain ⟨e1, e2⟩ := rows_pick r l fun j hj => h j (List.mem_cons_of_mem _ hj)
    have g := List.getElem?_eq_getElem hi
    have ge := rows_at r g
    constructor
    · rw [List.filterMap_cons_some ge, e1, List.filterMap_cons_some g]; rfl
    · rw [List.filterMap_cons_some g, List.map_cons, List.map_cons, e2]
      congr 1
      have : (es.map (·.1))[i]? = some (kth P w L[i].2) := by rw [Array.getElem?_map, ge]; rfl
      simp [Array.getD_eq_getD_getElem?, this]
theorem kt_same {h h' : Heap} {ks : List Key} {a b : Addr} {o : Obj} {es : Array (Int × Value)} {ep : Nat} {t : SetTable} (hb : KT P w h ks b) (ho : h.get? a = some o) (hd : o.data = .set es ep t) (hs : Heap.SameBut a h h') : KT P w h' ks b := by
  obtain ⟨ob, its, n, e1, e2, e3, e4⟩ := hb
  refine ⟨ob, its, n, (hs.2 b fun z => ?_).trans e1, e2, e3, e4⟩
  rw [z, ho] at e1
  cases e1
  rw [hd] at e3
  cases e3
variable {a : Addr} {L : List Mb} {es : Array (Int × Value)} {ep : Nat} {t : SetTable}
/-- laid anew, in a larger table -/
theorem ts_relay {ob : Obj} (g1 : s.heap.get? a = some ob) (g2 : ob.ExactSet) (g3 : ob.data = .set es ep t) (row : es.toList = mbRows P w L) (psz : t.place.size = es.size) (dm : t.dummies = #[]) (room : es.size ≤ t.mask)
    (dif : (L.map (·.2)).Nodup) (mem : ∀ p ∈ L, KT P w s.heap p.2 p.1) (ord : w.params.followText "set-order" = true ∨ t.led = true) (few : L.length < 64) {wanted N : Nat} (hw : SetTable.sizeAbove wanted - 1 = N) (hN : MaskOk N) (hw2 : SetTable.sizeAbove wanted ≤ 128)
    (spc : L.length * 5 < N * 3) {Q : Unit → Shared → Prop} (q : ∀ h' L' es' ep' t', Heap.SameBut a s.heap h' → TS_ P w h' a L' es' ep' t' → L'.Perm L → Q () { s with heap := h' }) : wpAny (model P w) A (setRelay a wanted) Q E s := by
  have sz := rows_len row
  have fits : t.fits es.size = true := by
    unfold SetTable.fits SetTable.fill
    rw [dm, Bool.and_eq_true, beq_iff_eq, decide_eq_true_eq]
    show t.place.size = es.size ∧ t.place.size + 0 ≤ t.mask
    omega
  obtain ⟨t2, order, e, perm, tab, e1, e2, _, _⟩ := relaid_ok t (hs := es.map (·.1)) (wanted := wanted) hw hN (by rw [Array.size_map, sz]; omega)
  rw [Array.size_map, sz] at perm
  obtain ⟨r1, r2⟩ := rows_pick row order.toList fun i hi => List.mem_range.mp (perm.mem_iff.mp hi)
  have pl : (order.toList.filterMap fun i => L[i]?).Perm L := by
    have := perm.filterMap (fun i => L[i]?)
    rw [range_all] at this
    exact this
  rw [← r2] at tab
  generalize (order.toList.filterMap fun i => L[i]?) = L2 at r1 tab pl
  have r3 : (order.filterMap (es[·]?)).toList = mbRows P w L2 := by first | (rw [Array.toList_filterMap]; exact r1) | simpa using r1
  have sz2 : (order.filterMap (es[·]?)).size = es.size := by rw [rows_len r3, pl.length_eq, sz]
  rw [setRelay_eq]
  refine wpAny_bind (wpAny_setState_of g1 g3 fits ?_)
  dsimp only
  refine wp_if_neg (by rw [sizeLine_eq]; omega) ?_
  try refine wpAny_bind (wpAny_pure ?_)
  rw [e]
  dsimp only
  refine wpAny_bind (wp_if_neg (by rw [sz2]; simp) ?_)
  try refine wpAny_bind (wpAny_pure ?_)
  refine wpAny_pure ?_
  dsimp only
  have sb : Heap.SameBut a s.heap (s.heap.update a (Obj.putSet (order.filterMap (es[·]?)) t2)) := Heap.SameBut.update ..
  refine wpAny_storeSet_of g1 g3 (q _ L2 (order.filterMap (es[·]?)) (ep + 1) t2 sb ⟨⟨_, store_at g1 g3, ⟨g2.1, g2.2.1, g2.2.2⟩, rfl⟩, r3, tab, (pl.map (·.2)).nodup_iff.mpr dif, fun p hp => kt_same (mem p (pl.mem_iff.mp hp)) g1 g3 sb, by rw [e2]; exact ord, by rw [pl.length_eq, e1]; exact spc, by rw [pl.length_eq]; exact few⟩ pl) (by rw [sz2, sz, sizeLine_eq]; omega)
theorem tab_off {t : SetTable} {hs : List Int} (T : TabOk t hs) : TabOk { t with plain := false } hs := ⟨T.ris, T.dm, T.sz, T.mok, T.bd, T.reach⟩
/-- one member more, or not -/
theorem ts_add (R : TS_ P w s.heap a L es ep t) {x : Addr} {ks : List Key} (hx : KT P w s.heap ks x) (hu : A.units < cLine) (few : L.length + 1 < 64) {Q : Bool → Shared → Prop}
    (q : ∀ b h' L' es' ep' t', Heap.SameBut a s.heap h' → TS_ P w h' a L' es' ep' t' → (ks ∈ L.map (·.2) → L' = L) → (ks ∉ L.map (·.2) → L'.Perm ((x, ks) :: L)) → Q b { s with heap := h' }) : wpAny (model P w) A (setAddHashed a (.ref x) (kth P w ks)) Q E s := by
  obtain ⟨ob, g1, g2, g3⟩ := R.obj
  have sz := rows_len R.row
  have spc := R.spc
  have tsz := R.tab.sz
  rw [List.length_map] at tsz
  obtain ⟨N, hN, n1, n2⟩ := R.tab.first (by rw [List.length_map]; omega) (kth P w ks)
  have big : N < 100000 := by
    have : 10 * SetTable.turns t.mask ≤ 1420 := by
      unfold SetTable.turns
      rcases R.tab.mok with e | e | e <;> omega
    omega
  unfold setAddHashed
  refine wpAny_holding ?_
  rw [show (100000 : Nat) = 99999 + 1 from rfl, setAddHashedIn_succ]
  refine wpAny_bind (wpAny_setState_of g1 g3 R.fits ?_)
  dsimp only
  refine wp_if_neg (by simp [byScan, Value.scannable]) ?_
  try refine wpAny_bind (wpAny_pure ?_)
  refine wpAny_bind ?_
  unfold setSearch
  refine ts_search R hx hu hN n1 n2 (fun hm => ?_) (fun hm => ?_) 100000 0 none rfl (Nat.zero_le _) (by omega) fun i p hp e => ?_
  · exact wpAny_pure (q false s.heap L es ep t (Heap.SameBut.refl a s.heap) R (fun _ => rfl) fun z => absurd hm z)
  · dsimp only
    refine wpAny_bind (wpAny_setState_of g1 g3 R.fits ?_)
    dsimp only
    obtain ⟨q1, q2, q3, q4, q5, _, _, _, q9⟩ := R.tab.put n1 n2
    generalize hpt : t.put (way t.mask (kth P w ks) N) = pt at q1 q3 q4 q5 q9 ⊢
    obtain ⟨t1, at_⟩ := pt
    dsimp only at q1 q3 q4 q5 q9 ⊢
    subst q1
    generalize SetTable.below t.place (way t.mask (kth P w ks) N) = at_ at q2 q3 ⊢
    have perm := put_perm L at_ (x, ks)
    have ln := perm.length_eq
    rw [List.length_cons] at ln
    have rows1 : (SetTable.insertAt es at_ (kth P w ks, Value.ref x)).toList = mbRows P w (L.take at_ ++ (x, ks) :: L.drop at_) := by
      rw [SetTable.toList_insertAt, R.row]
      unfold mbRows
      rw [List.map_append, List.map_cons, List.map_take, List.map_drop]
    have hh : (L.map fun p => kth P w p.2).take at_ ++ kth P w ks :: (L.map fun p => kth P w p.2).drop at_ = (L.take at_ ++ (x, ks) :: L.drop at_).map fun p => kth P w p.2 := by
      rw [List.map_append, List.map_cons, List.map_take, List.map_drop]
    rw [hh] at q3
    have es1 := rows_len rows1
    generalize SetTable.insertAt es at_ (kth P w ks, Value.ref x) = es2 at rows1 es1 ⊢
    generalize L.take at_ ++ (x, ks) :: L.drop at_ = L1 at perm ln q3 rows1 es1
    have dif1 : (L1.map (·.2)).Nodup := (perm.map (·.2)).nodup_iff.mpr (by rw [List.map_cons]; exact List.nodup_cons.mpr ⟨hm, R.dif⟩)
    -- behind the question after the hash
    have tail : ∀ t2 : SetTable, TabOk t2 (L1.map fun p => kth P w p.2) → t2.mask = t.mask → t2.led = t.led → t2.fill = L.length + 1 → wpAny (model P w) A (do
        storeSet a es2 t2
        if (!false && t2.tooFull) = true then setRelay a (SetTable.grown (es.size + 1))
        pure true) Q E s := by
      intro t2 tab2 m2 l2 fill2
      have sb : Heap.SameBut a s.heap (s.heap.update a (Obj.putSet es2 t2)) := Heap.SameBut.update ..
      have o1 := store_at (es' := es2) (t' := t2) g1 g3
      refine wpAny_bind (wpAny_storeSet_of g1 g3 ?_ (by rw [es1, ln, sizeLine_eq]; omega))
      generalize s.heap.update a (Obj.putSet es2 t2) = h1 at sb o1 ⊢
      have mem1 : ∀ p ∈ L1, KT P w h1 p.2 p.1 := fun p hp => by
        rcases List.mem_cons.mp (perm.mem_iff.mp hp) with rfl | hp
        · exact kt_same hx g1 g3 sb
        · exact kt_same (R.mem p hp) g1 g3 sb
      have ord1 : w.params.followText "set-order" = true ∨ t2.led = true := by rw [l2]; exact R.ord
      have tsz1 := tab2.sz
      rw [List.length_map, ln] at tsz1
      by_cases full : t2.tooFull = true
      · have fl : (L.length + 1) * 5 ≥ t2.mask * 3 := by
          have := full
          unfold SetTable.tooFull at this
          rw [decide_eq_true_eq, fill2] at this
          exact this
        have two : (t.mask = 7 ∧ L.length = 4) ∨ (t.mask = 31 ∧ L.length = 18) := by
          rw [m2] at fl
          rcases R.tab.mok with e | e | e <;> rw [e] at fl spc <;> omega
        have go : ∀ N, SetTable.sizeAbove (SetTable.grown (L.length + 1)) - 1 = N → MaskOk N → SetTable.sizeAbove (SetTable.grown (L.length + 1)) ≤ 128 → (L.length + 1) * 5 < N * 3 → wpAny (model P w) A (setRelay a (SetTable.grown (L.length + 1))) (fun _ z => wpAny (model P w) A (pure true) Q E z) E { s with heap := h1 } := by
          intro N y1 y2 y3 y4
          refine ts_relay (s := { s with heap := h1 }) o1 ⟨g2.1, g2.2.1, g2.2.2⟩ rfl rows1 (by rw [tsz1, es1, ln]) tab2.dm (by rw [es1, ln, m2]; omega) dif1 mem1 ord1 (by omega) y1 y2 y3 (by rw [ln]; exact y4) ?_
          intro h2 L2 es3 ep3 t3 sb3 R3 p3
          exact wpAny_pure (q true h2 L2 es3 ep3 t3 (sb.trans sb3) R3 (fun z => absurd z hm) fun _ => p3.trans perm)
        rw [sz]
        first
          | (refine wpAny_bind ?_; refine wp_if_pos (by simp [full]) ?_)
          | (refine wp_if_pos (by simp [full]) ?_; refine wpAny_bind ?_)
        rcases two with ⟨_, e2⟩ | ⟨_, e2⟩
        · exact go 31 (by rw [e2, size_20]) (.inr (.inl rfl)) (by rw [e2, size_20]; decide) (by omega)
        · exact go 127 (by rw [e2, size_76]) (.inr (.inr rfl)) (by rw [e2, size_76]; decide) (by omega)
      · first
          | refine wp_if_neg (by simp [full]) ?_
          | (refine wpAny_bind ?_; refine wp_if_neg (by simp [full]) ?_; refine wpAny_pure ?_)
        have fl : (L.length + 1) * 5 < t2.mask * 3 := by
          have := full
          unfold SetTable.tooFull at this
          rw [decide_eq_true_eq, fill2] at this
          omega
        exact wpAny_pure (q true h1 L1 es2 (ep + 1) t2 sb ⟨⟨_, o1, ⟨g2.1, g2.2.1, g2.2.2⟩, rfl⟩, rows1, tab2, dif1, mem1, ord1, by rw [ln]; exact fl, by omega⟩ (fun z => absurd z hm) fun _ => perm)
    have fill1 : t1.fill = L.length + 1 := by rw [q9, List.length_map]
    have on := tail t1 q3 q4 q5 fill1
    have off := tail { t1 with plain := false } (tab_off q3) q4 q5 fill1
    by_cases pl : t1.plain = true
    · first
        | (refine wpAny_bind ?_; refine wp_if_pos pl ?_; refine kt_hsh hx fun y => ?_)
        | refine wp_if_pos pl (wpAny_bind (kt_hsh hx fun y => ?_))
      cases y with
      | true => exact on
      | false => exact off
    · first
        | (refine wpAny_bind ?_; refine wp_if_neg pl ?_; refine wpAny_pure ?_)
        | refine wp_if_neg pl (wpAny_bind (wpAny_pure ?_))
      exact on
  · have li := (List.getElem?_eq_some_iff.mp hp).1
    have hi : (L.map fun p => kth P w p.2)[i]? = some (kth P w ks) := by rw [List.getElem?_map, hp, ← e]; rfl
    obtain ⟨j, hj⟩ : ∃ j, t.place.toList[i]? = some j := ⟨_, List.getElem?_eq_getElem (by rw [Array.length_toList]; omega)⟩
    obtain ⟨c, hc, e2⟩ := R.tab.before n1 hi hj
    exact ⟨c, Nat.zero_le _, hc, by rw [hj, e2]⟩
end
end Cb

set_option Elab.async false
set_option linter.all false
set_option maxRecDepth 100000
/-! Cb, part R: sets of keys, sets of tuples of keys, alike; set(xs). -/
namespace Cb
open PySem PySem.Spec PyProof.Rows L2

/-- kinds of sets -/
structure SKind (P : Program) (w : World) (K : Type) where
  Is : Heap → Value → K → Prop
  St : Heap → Addr → List (Value × K) → Prop
  cap : Nat
  keepIs : ∀ {h h' : Heap} {v : Value} {k : K}, Is h v k → (∀ b o, h.get? b = some o → h'.get? b = some o) → Is h' v k
  keepSt : ∀ {h h' : Heap} {a : Addr} {L : List (Value × K)}, St h a L → (∀ o, h.get? a = some o → h'.get? a = some o) → (∀ p ∈ L, Is h' p.1 p.2) → St h' a L
  fresh : ∀ {h : Heap} {a : Addr}, h.get? a = some { cls := .type "set", dict := none, data := .set #[] 0 (.fresh 0 0 (!w.params.followText "set-order")) } → St h a []
  look : ∀ {h : Heap} {a : Addr} {L : List (Value × K)}, St h a L → ∃ es ep t, SetAt h a es ep t ∧ t.fits es.size = true ∧ es.size < scanBound ∧ Ris t.place.toList ∧ (w.params.followText "set-order" = true ∨ t.led = true) ∧ (es.toList.map (·.2)).Perm (L.map (·.1))
  dif : ∀ {h : Heap} {a : Addr} {L : List (Value × K)}, St h a L → (L.map (·.2)).Nodup
  add : ∀ {A : Around} {E : Value → Shared → Prop} {s : Shared} {a : Addr} {L : List (Value × K)} {v : Value} {k : K} {Q : Bool → Shared → Prop}, St s.heap a L → Is s.heap v k → A.units < cLine → L.length + 1 < cap →
    (∀ b h' L' tk, Heap.SameBut a s.heap h' → St h' a L' → (k ∈ L.map (·.2) → L' = L) → (k ∉ L.map (·.2) → L'.Perm ((v, k) :: L)) → s.toks ≤ tk → Q b { s with heap := h', toks := tk }) → wpAny (model P w) A (setAdd a v) Q E s

section
variable {P : Program} {w : World} {A : Around} {E : Value → Shared → Prop} {s : Shared}
theorem kt_keep {h h' : Heap} {ks : List Key} {b : Addr} (x : KT P w h ks b) (k : ∀ c o, h.get? c = some o → h'.get? c = some o) : KT P w h' ks b := by
  obtain ⟨ob, its, n, e, r⟩ := x
  exact ⟨ob, its, n, k b ob e, r⟩
/-- sets of tuples of keys -/
def tupSets (P : Program) (w : World) : SKind P w (List Key) where
  Is := fun h v ks => ∃ b, v = .ref b ∧ KT P w h ks b
  St := fun h a L => ∃ (L0 : List Mb) (es : Array (Int × Value)) (ep : Nat) (t : SetTable), L = L0.map (fun p => (Value.ref p.1, p.2)) ∧ TS_ P w h a L0 es ep t
  cap := 64
  keepIs := fun ⟨b, e, x⟩ k => ⟨b, e, kt_keep x k⟩
  keepSt := fun ⟨L0, es, ep, t, e, R⟩ k1 k2 => by
    refine ⟨L0, es, ep, t, e, ?_⟩
    obtain ⟨ob, g1, r⟩ := R.obj
    refine ⟨⟨ob, k1 ob g1, r⟩, R.row, R.tab, R.dif, fun p hp => ?_, R.ord, R.spc, R.few⟩
    obtain ⟨b, e2, x⟩ := k2 (Value.ref p.1, p.2) (by rw [e]; exact List.mem_map.mpr ⟨p, hp, rfl⟩)
    cases e2
    exact x
  fresh := fun {h a} ho => ⟨[], #[], 0, _, rfl, ⟨⟨_, ho, ⟨rfl, rfl, rfl⟩, rfl⟩, rfl, ⟨List.Pairwise.nil, rfl, rfl, .inl rfl, fun x hx => (by cases hx), fun i h j hi => (by simp at hi)⟩, List.nodup_nil, fun p hp => (by cases hp), by
    show _ ∨ (!w.params.followText "set-order") = true
    cases w.params.followText "set-order"
    · exact .inr rfl
    · exact .inl rfl, by show 0 * 5 < 7 * 3; decide, by show 0 < 64; decide⟩⟩
  look := fun ⟨L0, es, ep, t, e, R⟩ => by
    obtain ⟨ob, g1, g2, g3⟩ := R.obj
    have z := rows_len R.row
    have f := R.few
    refine ⟨es, ep, t, ⟨ob, g1, g2.1, g3⟩, ?_, by unfold scanBound; omega, R.tab.ris, R.ord, ?_⟩
    · have z1 := R.tab.sz
      rw [List.length_map] at z1
      have z3 := R.spc
      unfold SetTable.fits SetTable.fill
      rw [R.tab.dm, Bool.and_eq_true, beq_iff_eq, decide_eq_true_eq]
      show t.place.size = es.size ∧ t.place.size + 0 ≤ t.mask
      omega
    · rw [R.row, e, mbRows, List.map_map, List.map_map]
      exact List.Perm.refl _
  dif := fun ⟨L0, es, ep, t, e, R⟩ => by
    rw [e, List.map_map]
    exact R.dif
  add := fun {A E s a L v k Q} ⟨L0, es, ep, t, e, R⟩ ⟨b, ev, hx⟩ hu few q => by
    subst ev
    have ek : L.map (·.2) = L0.map (·.2) := by rw [e, List.map_map]; rfl
    have el : L.length = L0.length := by rw [e, List.length_map]
    unfold setAdd
    refine wpAny_holding (wpAny_bind (wpAny_pyHash_tuple hu hx ?_))
    refine ts_add (s := { s with toks := s.toks + (k.length + 1) }) R hx hu (by omega) fun y h' L' es' ep' t' sb R' c1 c2 => ?_
    refine q y h' (L'.map fun p => (Value.ref p.1, p.2)) (s.toks + (k.length + 1)) sb ⟨L', es', ep', t', rfl, R'⟩ (fun c => ?_) (fun c => ?_) (Nat.le_add_right ..)
    · rw [c1 (by rw [← ek]; exact c), e]
    · rw [e]
      exact (c2 (by rw [← ek]; exact c)).map fun p => (Value.ref p.1, p.2)

/-! ### sets of keys -/
/-- the set at a holds these -/
structure KS_ (P : Program) (w : World) (h : Heap) (a : Addr) (L : List (Value × Key)) (es : Array (Int × Value)) (ep : Nat) (t : SetTable) : Prop where
  obj : ∃ o, h.get? a = some o ∧ o.ExactSet ∧ o.data = .set es ep t
  row : es.toList.Perm (L.map fun p => (keyH w p.2, p.1))
  mem : ∀ p ∈ L, keyIs p.2 p.1 = true
  dif : (L.map (·.2)).Nodup
  low : es.size < scanBound
  fit : t.fits es.size = true
  ris : Ris t.place.toList
  ord : w.params.followText "set-order" = true ∨ t.led = true
variable {a : Addr} {L : List (Value × Key)} {es : Array (Int × Value)} {ep : Nat} {t : SetTable}
theorem ks_elems (R : KS_ P w s.heap a L es ep t) : ElemsOf (mixKind P w) es.toList := fun e he => by
  obtain ⟨p, hp, rfl⟩ := List.mem_map.mp (R.row.mem_iff.mp he)
  exact ⟨⟨p.2, R.mem p hp, rfl⟩, flat_scn (R.mem p hp)⟩
theorem ks_len (R : KS_ P w s.heap a L es ep t) : es.size = L.length := by
  have := R.row.length_eq
  rw [List.length_map, Array.length_toList] at this
  exact this
theorem ks_tail {g : Bool → Sem Unit} (hg : ∀ (b : Bool) (z : Shared) (Q' : Unit → Shared → Prop), Q' () z → wpAny (model P w) A (g b) Q' E z) {ob : Obj} {es1 : Array (Int × Value)} {t2 : SetTable} {L' : List (Value × Key)} (g1 : s.heap.get? a = some ob) (g2 : ob.ExactSet)
    (g3 : ob.data = .set es ep t) (row : es1.toList.Perm (L'.map fun p => (keyH w p.2, p.1))) (mem : ∀ p ∈ L', keyIs p.2 p.1 = true) (dif : (L'.map (·.2)).Nodup) (low : es1.size < scanBound) (fit : t2.fits es1.size = true) (ris : Ris t2.place.toList)
    (ord : w.params.followText "set-order" = true ∨ t2.led = true) {dm : Bool} {R : Option Bool → Shared → Prop} (q : ∀ h' es' ep' t', Heap.SameBut a s.heap h' → KS_ P w h' a L' es' ep' t' → R (some true) { s with heap := h' }) :
    wpAny (model P w) A (do
        storeSet a es1 t2
        if (!dm && t2.tooFull) = true then do
            g (relayAll t2 es1 (SetTable.grown es1.size)).2.2
            storeSet a (relayAll t2 es1 (SetTable.grown es1.size)).1 (relayAll t2 es1 (SetTable.grown es1.size)).2.1
            pure (some true)
          else pure (some true)) R E s := by
  have o1 := store_at (es' := es1) (t' := t2) g1 g3
  have sb := Heap.SameBut.update s.heap a (Obj.putSet es1 t2)
  refine wpAny_bind (wpAny_storeSet_of g1 g3 ?_ (fits_of_scanBound low))
  split
  · have p1 := relayAll_perm t2 es1 (SetTable.grown es1.size)
    have p2 := relayAll_fits t2 es1 (SetTable.grown es1.size)
    have p3 := relayAll_ris t2 es1 (SetTable.grown es1.size)
    have p4 := relayAll_led t2 es1 (SetTable.grown es1.size)
    generalize relayAll t2 es1 (SetTable.grown es1.size) = z at p1 p2 p3 p4 ⊢
    obtain ⟨es2, t3, gave⟩ := z
    dsimp only at p1 p2 p3 p4 ⊢
    have ln : es2.size = es1.size := by
      have := p1.length_eq
      rw [Array.length_toList, Array.length_toList] at this
      exact this
    refine wpAny_bind (hg _ _ _ (wpAny_bind (wpAny_storeSet_of o1 rfl ?_ (fits_of_scanBound (by rw [ln]; exact low)))))
    have o2 := store_at (es' := es2) (t' := t3) o1 rfl
    exact wpAny_pure (q _ es2 _ t3 (sb.trans (Heap.SameBut.update _ a _)) ⟨⟨_, o2, g2, rfl⟩, p1.trans row, mem, dif, by rw [ln]; exact low, p2, p3, ord.imp id fun y => by rw [p4]; exact y⟩)
  · exact wpAny_pure (q _ es1 _ t2 sb ⟨⟨_, o1, g2, rfl⟩, row, mem, dif, low, fit, ris, ord⟩)
theorem ks_add (R : KS_ P w s.heap a L es ep t) {v : Value} {k : Key} (hk : keyIs k v = true) (few : L.length + 1 < scanBound) {Q : Bool → Shared → Prop}
    (q : ∀ b h' L' es' ep' t', Heap.SameBut a s.heap h' → KS_ P w h' a L' es' ep' t' → (k ∈ L.map (·.2) → L' = L) → (k ∉ L.map (·.2) → L'.Perm ((v, k) :: L)) → Q b { s with heap := h' }) : wpAny (model P w) A (setAddHashed a v (keyH w k)) Q E s := by
  obtain ⟨ob, g1, g2, g3⟩ := R.obj
  have el := ks_elems R
  have ln := ks_len R
  have hkey : (mixKind P w).is k v = true := hk
  unfold setAddHashed setAddHashedIn
  refine wpAny_holding (wpAny_bind (wpAny_setState_of g1 g3 R.fit ?_))
  dsimp only
  rw [byScan_of (flat_scn hk) R.low el]
  simp only [↓reduceIte]
  unfold setAddByScan
  refine wpAny_bind (wpAny_bind (wpAny_rule (wpAny_bind (wpAny_setScan_of hkey g1 g3 R.fit el ?_))))
  cases hf : List.findIdx? (fun e => (mixKind P w).is k e.2) es.toList with
  | some j =>
    dsimp only
    obtain ⟨hj, pj, _⟩ := List.findIdx?_eq_some_iff_getElem.mp hf
    obtain ⟨p, hp, e⟩ := List.mem_map.mp (R.row.mem_iff.mp (List.getElem_mem hj))
    have ek : p.2 = k := (mixKind P w).inj p.1 p.2 k (R.mem p hp) (by have := pj; rw [← e] at this; exact this)
    exact wpAny_pure (wpAny_pure (q _ s.heap L es ep t (Heap.SameBut.refl a s.heap) R (fun _ => rfl) fun c => absurd (List.mem_map.mpr ⟨p, hp, ek⟩) c))
  | none =>
    dsimp only
    have nk : k ∉ L.map (·.2) := fun c => by
      obtain ⟨p, hp, e⟩ := List.mem_map.mp c
      have := List.findIdx?_eq_none_iff.mp hf _ (R.row.mem_iff.mpr (List.mem_map.mpr ⟨p, hp, rfl⟩))
      rw [← e] at this
      exact absurd (R.mem p hp) (by rw [show keyIs p.2 p.1 = false from this]; exact Bool.false_ne_true)
    have p1 := layNew_perm t es ((mixKind P w).hash k) v
    have p2 := layNew_fits t es ((mixKind P w).hash k) v
    have p3 := layNew_ris t es ((mixKind P w).hash k) v R.ris
    have p4 := layNew_led t es ((mixKind P w).hash k) v
    show wpAny _ _ _ _ _ _
    have hgw : ∀ (b : Bool) {z : Shared} {Q' : Unit → Shared → Prop}, Q' () z → wpAny (model P w) A (match b with | true => rule "set.scan.the-table-gave-way" | false => pure ()) Q' E z :=
      fun b z Q' y => by cases b <;> first | exact wpAny_pure y | exact wpAny_rule y
    change wpAny _ _ _ _ _ _
    generalize hz : layNew t es ((mixKind P w).hash k) v = z at p1 p2 p3 p4
    have hz' : layNew t es (keyH w k) v = z := hz
    rw [hz']
    obtain ⟨es1, t1, dm, gave⟩ := z
    dsimp only at p1 p2 p3 p4 ⊢
    rw [Array.toList_push] at p1
    have row : es1.toList.Perm (((v, k) :: L).map fun p => (keyH w p.2, p.1)) := p1.trans ((List.perm_append_singleton _ _).trans (R.row.cons _))
    have mem : ∀ p ∈ (v, k) :: L, keyIs p.2 p.1 = true := fun p hp => by
      rcases List.mem_cons.mp hp with rfl | hp
      · exact hk
      · exact R.mem p hp
    have dif : (((v, k) :: L).map (·.2)).Nodup := by rw [List.map_cons]; exact List.nodup_cons.mpr ⟨nk, R.dif⟩
    have ln1 : es1.size = L.length + 1 := by
      have := row.length_eq
      rw [List.length_map, List.length_cons, Array.length_toList] at this
      exact this
    have low : es1.size < scanBound := by omega
    have ord : w.params.followText "set-order" = true ∨ t1.led = true := R.ord.imp id fun y => by rw [p4]; exact y
    have fin : ∀ h' es' ep' t', Heap.SameBut a s.heap h' → KS_ P w h' a ((v, k) :: L) es' ep' t' → Q true { s with heap := h' } := fun h' es' ep' t' sb r => q true h' _ es' ep' t' sb r (fun c => absurd c nk) fun _ => List.Perm.refl _
    refine wpAny_bind (hgw _ ?_)
    split
    · refine wpAny_bind ?_
      rw [hashByValue_scannable 8 (flat_scn hk)]
      refine wpAny_pure ?_
      refine ks_tail ?_ g1 g2 g3 row mem dif low ?_ ?_ ?_ ?_
      · intro b z Q' y; cases b <;> first | exact wpAny_pure y | exact wpAny_rule y
      · first | (split <;> first | exact p2 | exact SetTable.fits_plain_off p2) | exact p2
      · first | (split <;> exact p3) | exact p3
      · first | (split <;> exact ord) | exact ord
      · intro h' es' ep' t' sb r; dsimp only; exact wpAny_pure (fin h' es' ep' t' sb r)
    · refine wpAny_bind (wpAny_pure ?_)
      simp only [↓reduceIte]
      refine ks_tail ?_ g1 g2 g3 row mem dif low p2 p3 ord ?_
      · intro b z Q' y; cases b <;> first | exact wpAny_pure y | exact wpAny_rule y
      · intro h' es' ep' t' sb r; dsimp only; exact wpAny_pure (fin h' es' ep' t' sb r)
end
/-- sets of keys -/
def keySets (P : Program) (w : World) : SKind P w Key where
  Is := fun _ v k => keyIs k v = true
  St := fun h a L => ∃ (es : Array (Int × Value)) (ep : Nat) (t : SetTable), KS_ P w h a L es ep t
  cap := scanBound
  keepIs := fun x _ => x
  keepSt := fun ⟨es, ep, t, R⟩ k1 _ => by
    obtain ⟨ob, g1, r⟩ := R.obj
    exact ⟨es, ep, t, ⟨ob, k1 ob g1, r⟩, R.row, R.mem, R.dif, R.low, R.fit, R.ris, R.ord⟩
  fresh := fun {h a} ho => ⟨#[], 0, _, ⟨_, ho, ⟨rfl, rfl, rfl⟩, rfl⟩, List.Perm.refl _, fun p hp => (by cases hp), List.nodup_nil, by decide, by rfl, List.Pairwise.nil, by
    show _ ∨ (!w.params.followText "set-order") = true
    cases w.params.followText "set-order"
    · exact .inr rfl
    · exact .inl rfl⟩
  look := fun ⟨es, ep, t, R⟩ => by
    obtain ⟨ob, g1, g2, g3⟩ := R.obj
    refine ⟨es, ep, t, ⟨ob, g1, g2.1, g3⟩, R.fit, R.low, R.ris, R.ord, ?_⟩
    have := R.row.map (·.2)
    rw [List.map_map] at this
    exact this
  dif := fun ⟨es, ep, t, R⟩ => R.dif
  add := fun {A E s a L v k Q} ⟨es, ep, t, R⟩ hk hu few q => by
    unfold setAdd
    refine wpAny_holding (wpAny_bind ((mixKind P w).pyHash (k := k) hk ?_))
    refine ks_add (s := { s with toks := s.toks + 1 }) R hk few fun b h' L' es' ep' t' sb R' c1 c2 => ?_
    exact q b h' L' (s.toks + 1) sb ⟨es', ep', t', R'⟩ c1 c2 (Nat.le_add_right ..)
end Cb

set_option Elab.async false
set_option linter.all false
set_option maxRecDepth 100000
/-! Cb, part S: set(xs) of a list or a tuple, sorted(set). -/
namespace Cb
open PySem PySem.Spec PyProof.Rows L2

section
variable {P : Program} {w : World} {A : Around} {E : Value → Shared → Prop} {s : Shared} {K : Type}
/-- what a new set is -/
abbrev nso (w : World) : Obj := { cls := .type "set", dict := none, data := .set #[] 0 (.fresh 0 0 (!w.params.followText "set-order")) }
/-- the members after i items -/
structure Has (ks : List (Value × K)) (i : Nat) (L : List (Value × K)) : Prop where
  sub : ∀ p ∈ L, p ∈ ks.take i
  all : ∀ p ∈ ks.take i, p.2 ∈ L.map (·.2)
  len : L.length ≤ i
theorem take_one {α : Type} {l : List α} {i : Nat} {x : α} (h : l[i]? = some x) : l.take (i + 1) = l.take i ++ [x] := by
  rw [List.take_add_one, h]; rfl
theorem Has.step {ks L L' : List (Value × K)} {i : Nat} {p : Value × K} (g : Has ks i L) (h : ks[i]? = some p) (c1 : p.2 ∈ L.map (·.2) → L' = L) (c2 : p.2 ∉ L.map (·.2) → L'.Perm (p :: L)) : Has ks (i + 1) L' := by
  by_cases c : p.2 ∈ L.map (·.2)
  · rw [c1 c]
    refine ⟨fun q hq => ?_, fun q hq => ?_, Nat.le_succ_of_le g.len⟩
    · rw [take_one h]; exact List.mem_append_left _ (g.sub q hq)
    · rw [take_one h] at hq
      rcases List.mem_append.mp hq with z | z
      · exact g.all q z
      · rw [List.mem_singleton.mp z]; exact c
  · have pm := c2 c
    refine ⟨fun q hq => ?_, fun q hq => ?_, by rw [pm.length_eq, List.length_cons]; exact Nat.succ_le_succ g.len⟩
    · rw [take_one h]
      rcases List.mem_cons.mp (pm.mem_iff.mp hq) with e | z
      · rw [e]; exact List.mem_append_right _ (List.mem_singleton.mpr rfl)
      · exact List.mem_append_left _ (g.sub q z)
    · rw [(pm.map (·.2)).mem_iff, List.map_cons]
      rw [take_one h] at hq
      rcases List.mem_append.mp hq with z | z
      · exact List.mem_cons_of_mem _ (g.all q z)
      · rw [List.mem_singleton.mp z]; exact List.mem_cons_self
/-- the loop of set.update -/
theorem sk_loop (T : SKind P w K) {I : Addr} {fp wr : List Addr} {G : Array GenState → Array GenState → Prop} {n : Nat} {Pv : Nat → Value → Prop} {St : Nat → Shared → Prop} {R : Result → Shared → Prop} (W : WalksS P w A.in1 I fp wr G n Pv St) (D : Addr) (nD : D ∉ fp)
    (ks : List (Value × K)) (hn : n = ks.length) (few : ks.length < T.cap) (hval : ∀ i v, Pv i v → ∃ p, ks[i]? = some p ∧ v = p.1) (h0 : Heap) (hk : ∀ p ∈ ks, T.Is h0 p.1 p.2) (nD0 : h0.get? D = none) (nw0 : ∀ b ∈ wr, h0.get? b = none) (hu : A.in1.units < cLine) :
    ∀ (k i : Nat) (s : Shared), n - i = k → i ≤ n → St i s → (∀ b o, h0.get? b = some o → s.heap.get? b = some o) → (∃ L, T.St s.heap D L ∧ Has ks i L) →
      (∀ s' L, Moved (D :: wr) G s s' → T.St s'.heap D L → Has ks n L → (∀ b o, h0.get? b = some o → s'.heap.get? b = some o) → R (.ok (.ret .none)) s') →
      codeAny (model P w) A (.builtin "set.update.loop" ⟨[.ref D, .ref I], []⟩) R s := by
  have nDw : D ∉ wr := fun h => nD (W.sub _ h)
  have more : ∀ b ∈ wr, b ∈ D :: wr := fun b hb => List.mem_cons_of_mem _ hb
  have kept : ∀ {s s' : Shared}, Moved wr G s s' → (∀ b o, h0.get? b = some o → s.heap.get? b = some o) → ∀ b o, h0.get? b = some o → s'.heap.get? b = some o := fun hm hp b o e => hm.heap b o (fun hb => by rw [nw0 b hb] at e; cases e) (hp b o e)
  have still : ∀ {s s' : Shared} {i : Nat} {L : List (Value × K)}, Moved wr G s s' → (∀ b o, h0.get? b = some o → s'.heap.get? b = some o) → T.St s.heap D L → Has ks i L → T.St s'.heap D L := fun {s s' i L} hm hp hS g =>
    T.keepSt hS (fun o e => hm.heap D o nDw e) fun p hpL => T.keepIs (hk p (List.mem_of_mem_take (g.sub p hpL))) hp
  intro k
  induction k with
  | zero =>
    intro i s e1 hi hst hp ⟨L, hS, g⟩ fin
    obtain rfl : i = n := by omega
    refine codeAny_builtin F.entry_set_update_loop ?_
    rw [Around.under_plainId F.plain_set_update_loop _]
    show wpAny _ A.in1 (pyNext (.ref I) >>= _) _ _ s
    refine wpAny_bind (W.done s _ _ hst fun s' hm => ?_)
    show wpAny _ A.in1 (ret Value.none) _ _ s'
    exact wpAny_pure (fin s' L (hm.mono more) (still hm (kept hm hp) hS g) g (kept hm hp))
  | succ k ih =>
    intro i s e1 hi hst hp ⟨L, hS, g⟩ fin
    have lt : i < n := by omega
    refine codeAny_builtin F.entry_set_update_loop ?_
    rw [Around.under_plainId F.plain_set_update_loop _]
    show wpAny _ A.in1 (pyNext (.ref I) >>= _) _ _ s
    refine wpAny_bind (W.item i s _ _ lt hst fun v s' hP hst' hm => ?_)
    obtain ⟨p, ep, rfl⟩ := hval i v hP
    have hp' := kept hm hp
    show wpAny _ A.in1 (holding [p.1] (setAdd D p.1) >>= _) _ _ s'
    refine wpAny_bind (wpAny_holding (T.add (still hm hp' hS g) (T.keepIs (hk p (List.mem_of_getElem? ep)) hp') hu (by have := g.len; omega) fun b h' L' tk sb hS2 c1 c2 ht => ?_))
    have hp2 : ∀ b o, h0.get? b = some o → h'.get? b = some o := fun b o e => (sb.2 b (fun z => by rw [z, nD0] at e; cases e)).trans (hp' b o e)
    refine wpAny_pure ⟨plainId_quiet F.plain_set_update_loop _, ih (i + 1) _ (by omega) lt (W.frame _ s' _ _ hst' ht fun b hb o e => ?_) hp2 ⟨L', hS2, g.step ep c1 c2⟩ fun s2 L2 hm2 hS3 g2 hp3 => ?_⟩
    · rw [sb.2 b (fun z : b = D => nD (by rw [← z]; exact hb))]; exact e
    · refine fin s2 L2 (Moved.trans W.gtrans ((hm.mono more).then_heap ht fun b o hb e => ?_) hm2) hS3 g2 hp3
      rw [sb.2 b (fun z : b = D => hb (by rw [z]; exact List.mem_cons_self))]; exact e

set_option maxHeartbeats 3200000 in
/-- set(xs), xs a list -/
theorem sk_set_list (T : SKind P w K) {l : Addr} {items : Array Value} (ks : List (Value × K)) {Q : Value → Shared → Prop} (hh : A.handled = none) (hl : s.heap.IsList l items) (hit : items.toList = ks.map (·.1)) (hk : ∀ p ∈ ks, T.Is s.heap p.1 p.2) (few : ks.length < T.cap) (hu : A.units + 3 < cLine)
    (q : ∀ (h' : Heap) (tk : Nat) L, T.St h' s.heap.objs.size L → Has ks ks.length L → (∀ b o, s.heap.get? b = some o → h'.get? b = some o) → Q (.ref s.heap.objs.size) { s with heap := h', toks := tk }) : wpAny (model P w) A (call (.type "set") [.ref l]) Q E s := by
  have sz : items.size = ks.length := by rw [← Array.length_toList, hit, List.length_map]
  obtain ⟨c, tl, u0⟩ := F.called_set.mro
  have u1 := F.called_set.made
  have u2 := F.called_set.sub
  refine wpAny_call (codeAny_of_tree ?_)
  show wpAny _ _ (callAny (.type "set") _) _ _ _
  refine wpAny_pure ⟨Code.quiet_builtin _ (by decide +kernel), codeAny_builtin F.entry_type_call ?_⟩
  rw [Around.under_plain (weight_type_call_type "set" [.ref l] []) rfl]
  have u3 := F.called_set.notType
  have u4 := F.called_set.canCreate
  have u5 := F.typeCall_set_1 (.ref l)
  repeat (any_goals (first | assumption | wp_step))
  refine codeAny_mono (code_set_led1 (.ref l) (E := E) (Q₁ := fun x z => x = .ref s.heap.objs.size ∧ z = { s with heap := s.heap.push (nso w) }) ⟨rfl, rfl⟩) fun r z hr => ?_
  cases r with
  | error e => exact hr
  | ok fl =>
    cases fl with
    | ret x =>
      obtain ⟨rfl, rfl⟩ := hr
      have mine : (s.heap.push (nso w)).get? s.heap.objs.size = some (nso w) := Heap.get?_push_size _ rfl
      have ty : Shared.TypeIs { s with heap := s.heap.push (nso w) } (.ref s.heap.objs.size) "set" := ⟨_, mine, rfl⟩
      have u6 := F.called_set.init.lookup
      have u7 := F.called_set.init.bind (.ref s.heap.objs.size)
      repeat (any_goals (first | assumption | wp_step))
      refine codeAny_mono (codeAny_call_builtin (R := wants (fun r z => r = .none ∧ ∃ h' tk L, z = { s with heap := h', toks := tk } ∧ T.St h' s.heap.objs.size L ∧ Has ks ks.length L ∧ (∀ b o, s.heap.get? b = some o → h'.get? b = some o)) E) F.called_set.init.plain F.entry_set_init (check_set_init_1 ty ?_)) fun r z hr => ?_
      · obtain ⟨⟨oc, od, oda, osl⟩, e1, e2, cap, e3⟩ := hl
        dsimp only at e2 e3
        subst e2; subst e3
        have at1 : (s.heap.push (nso w)).get? l = some { cls := .type "list", dict := od, data := .seq items cap, slots := osl } := Heap.get?_push_of_some _ e1
        have v1 := F.sub_list_set
        have v2 := F.sub_list_frozenset
        have v3 : (Value.type "list" == Value.type "dict") = false := by decide
        have l1 : (s.heap.push (nso w)).IsList l items := ⟨_, at1, rfl, cap, rfl⟩
        unfold Builtin.«set.__init__» noKeywords Builtin.Frozenset.updateFrom
        generalize hPI : pyIter = PI
        wp_walk
        subst hPI
        refine wpAny_pyIter_list l1 (wpAny_bind (wpAny_runValue ?_))
        have below : l < s.heap.objs.size := Heap.lt_size e1
        have none_of : ∀ b, s.heap.objs.size ≤ b → s.heap.get? b = none := fun b hb => by
          cases y : s.heap.get? b with
          | none => rfl
          | some o => exact absurd (Nat.lt_of_lt_of_le (Heap.lt_size y) hb) (Nat.lt_irrefl _)
        have hh3 : A.in1.in1.in1.handled = none := by simp [hh]
        have nI : l ≠ (s.heap.push (nso w)).objs.size := by rw [Heap.size_push]; exact Nat.ne_of_lt (Nat.lt_succ_of_lt below)
        have nD : s.heap.objs.size ∉ [(s.heap.push (nso w)).objs.size, l] := by
          rw [Heap.size_push]
          simp only [List.mem_cons, List.mem_singleton, List.not_mem_nil, or_false, not_or]
          exact ⟨Nat.ne_of_lt (Nat.lt_succ_self _), Nat.ne_of_gt below⟩
        have hval : ∀ (i : Nat) (v : Value), items[i]? = some v → ∃ p, ks[i]? = some p ∧ v = p.1 := fun i v hv => by
          have y : items.toList[i]? = some v := by rw [Array.getElem?_toList]; exact hv
          rw [hit, List.getElem?_map] at y
          obtain ⟨p, e4, e5⟩ := Option.map_eq_some_iff.mp y
          exact ⟨p, e4, e5.symm⟩
        refine sk_loop T ((Walks.list hh3 _ l nI items).toS) s.heap.objs.size nD ks sz few hval s.heap hk (none_of _ (Nat.le_refl _)) (fun b hb => none_of b (by
            rw [List.mem_singleton.mp hb, Heap.size_push]
            exact Nat.le_succ _)) hu (items.size - 0) 0 _ (by omega) (Nat.zero_le _) ⟨⟨_, Heap.get?_push_size _ rfl, rfl, rfl⟩, (l1.push _)⟩ (fun b o e => Heap.get?_push_of_some _ (Heap.get?_push_of_some _ e)) ?first ?last
        case first =>
          have at2 : ((s.heap.push (nso w)).push { cls := .type "list_iterator", data := .fields #[.ref l, .int 0 0] }).get? s.heap.objs.size = some (nso w) := Heap.get?_push_of_some _ mine
          exact ⟨[], T.fresh at2, ⟨fun p h => (by cases h), fun p h => (by simp at h), Nat.le_refl _⟩⟩
        case last =>
          intro s' L hm hS g kp
          obtain ⟨h', g2, d', tk', os'⟩ := s'
          obtain rfl : g2 = s.gens := hm.gens
          obtain rfl : d' = s.drawn := hm.drawn
          obtain rfl : os' = s.os := hm.os
          show wpAny _ _ _ _ _ _
          refine wpAny_pure ?_
          show wpAny _ _ (ret Value.none) _ _ _
          rw [sz] at g
          exact wpAny_pure ⟨rfl, h', tk', L, rfl, hS, g, kp⟩
      · cases r with
        | error e => exact hr
        | ok fl2 =>
          cases fl2 with
          | ret x =>
            obtain ⟨rfl, h', tk, L, rfl, hS, g, kp⟩ := hr
            repeat (any_goals (first | assumption | wp_step))
            exact q _ _ _ hS g kp
          | _ => exact hr.elim
    | _ => exact hr.elim

set_option maxHeartbeats 3200000 in
/-- set(xs), xs a tuple -/
theorem sk_set_tuple (T : SKind P w K) {l : Addr} {items : Array Value} (ks : List (Value × K)) {Q : Value → Shared → Prop} (hh : A.handled = none) (hl : s.heap.IsTuple l items) (hit : items.toList = ks.map (·.1)) (hk : ∀ p ∈ ks, T.Is s.heap p.1 p.2) (few : ks.length < T.cap) (hu : A.units + 3 < cLine)
    (q : ∀ (h' : Heap) (tk : Nat) L, T.St h' s.heap.objs.size L → Has ks ks.length L → (∀ b o, s.heap.get? b = some o → h'.get? b = some o) → Q (.ref s.heap.objs.size) { s with heap := h', toks := tk }) : wpAny (model P w) A (call (.type "set") [.ref l]) Q E s := by
  have sz : items.size = ks.length := by rw [← Array.length_toList, hit, List.length_map]
  obtain ⟨c, tl, u0⟩ := F.called_set.mro
  have u1 := F.called_set.made
  have u2 := F.called_set.sub
  refine wpAny_call (codeAny_of_tree ?_)
  show wpAny _ _ (callAny (.type "set") _) _ _ _
  refine wpAny_pure ⟨Code.quiet_builtin _ (by decide +kernel), codeAny_builtin F.entry_type_call ?_⟩
  rw [Around.under_plain (weight_type_call_type "set" [.ref l] []) rfl]
  have u3 := F.called_set.notType
  have u4 := F.called_set.canCreate
  have u5 := F.typeCall_set_1 (.ref l)
  repeat (any_goals (first | assumption | wp_step))
  refine codeAny_mono (code_set_led1 (.ref l) (E := E) (Q₁ := fun x z => x = .ref s.heap.objs.size ∧ z = { s with heap := s.heap.push (nso w) }) ⟨rfl, rfl⟩) fun r z hr => ?_
  cases r with
  | error e => exact hr
  | ok fl =>
    cases fl with
    | ret x =>
      obtain ⟨rfl, rfl⟩ := hr
      have mine : (s.heap.push (nso w)).get? s.heap.objs.size = some (nso w) := Heap.get?_push_size _ rfl
      have ty : Shared.TypeIs { s with heap := s.heap.push (nso w) } (.ref s.heap.objs.size) "set" := ⟨_, mine, rfl⟩
      have u6 := F.called_set.init.lookup
      have u7 := F.called_set.init.bind (.ref s.heap.objs.size)
      repeat (any_goals (first | assumption | wp_step))
      refine codeAny_mono (codeAny_call_builtin (R := wants (fun r z => r = .none ∧ ∃ h' tk L, z = { s with heap := h', toks := tk } ∧ T.St h' s.heap.objs.size L ∧ Has ks ks.length L ∧ (∀ b o, s.heap.get? b = some o → h'.get? b = some o)) E) F.called_set.init.plain F.entry_set_init (check_set_init_1 ty ?_)) fun r z hr => ?_
      · obtain ⟨⟨oc, od, oda, osl⟩, e1, e2, cap, e3⟩ := hl
        dsimp only at e2 e3
        subst e2; subst e3
        have at1 : (s.heap.push (nso w)).get? l = some { cls := .type "tuple", dict := od, data := .seq items cap, slots := osl } := Heap.get?_push_of_some _ e1
        have v1 := F.sub_tuple_set
        have v2 := F.sub_tuple_frozenset
        have v3 : (Value.type "tuple" == Value.type "dict") = false := by decide
        have l1 : (s.heap.push (nso w)).IsTuple l items := ⟨_, at1, rfl, cap, rfl⟩
        unfold Builtin.«set.__init__» noKeywords Builtin.Frozenset.updateFrom
        generalize hPI : pyIter = PI
        wp_walk
        subst hPI
        refine wpAny_pyIter_tuple l1 (wpAny_bind (wpAny_runValue ?_))
        have below : l < s.heap.objs.size := Heap.lt_size e1
        have none_of : ∀ b, s.heap.objs.size ≤ b → s.heap.get? b = none := fun b hb => by
          cases y : s.heap.get? b with
          | none => rfl
          | some o => exact absurd (Nat.lt_of_lt_of_le (Heap.lt_size y) hb) (Nat.lt_irrefl _)
        have hh3 : A.in1.in1.in1.handled = none := by simp [hh]
        have nI : l ≠ (s.heap.push (nso w)).objs.size := by rw [Heap.size_push]; exact Nat.ne_of_lt (Nat.lt_succ_of_lt below)
        have nD : s.heap.objs.size ∉ [(s.heap.push (nso w)).objs.size, l] := by
          rw [Heap.size_push]
          simp only [List.mem_cons, List.mem_singleton, List.not_mem_nil, or_false, not_or]
          exact ⟨Nat.ne_of_lt (Nat.lt_succ_self _), Nat.ne_of_gt below⟩
        have hval : ∀ (i : Nat) (v : Value), items[i]? = some v → ∃ p, ks[i]? = some p ∧ v = p.1 := fun i v hv => by
          have y : items.toList[i]? = some v := by rw [Array.getElem?_toList]; exact hv
          rw [hit, List.getElem?_map] at y
          obtain ⟨p, e4, e5⟩ := Option.map_eq_some_iff.mp y
          exact ⟨p, e4, e5.symm⟩
        refine sk_loop T ((Walks.tuple hh3 _ l nI items).toS) s.heap.objs.size nD ks sz few hval s.heap hk (none_of _ (Nat.le_refl _)) (fun b hb => none_of b (by
            rw [List.mem_singleton.mp hb, Heap.size_push]
            exact Nat.le_succ _)) hu (items.size - 0) 0 _ (by omega) (Nat.zero_le _) ⟨⟨_, Heap.get?_push_size _ rfl, rfl, rfl⟩, (l1.push _)⟩ (fun b o e => Heap.get?_push_of_some _ (Heap.get?_push_of_some _ e)) ?first ?last
        case first =>
          have at2 : ((s.heap.push (nso w)).push { cls := .type "tuple_iterator", data := .fields #[.ref l, .int 0 0] }).get? s.heap.objs.size = some (nso w) := Heap.get?_push_of_some _ mine
          exact ⟨[], T.fresh at2, ⟨fun p h => (by cases h), fun p h => (by simp at h), Nat.le_refl _⟩⟩
        case last =>
          intro s' L hm hS g kp
          obtain ⟨h', g2, d', tk', os'⟩ := s'
          obtain rfl : g2 = s.gens := hm.gens
          obtain rfl : d' = s.drawn := hm.drawn
          obtain rfl : os' = s.os := hm.os
          show wpAny _ _ _ _ _ _
          refine wpAny_pure ?_
          show wpAny _ _ (ret Value.none) _ _ _
          rw [sz] at g
          exact wpAny_pure ⟨rfl, h', tk', L, rfl, hS, g, kp⟩
      · cases r with
        | error e => exact hr
        | ok fl2 =>
          cases fl2 with
          | ret x =>
            obtain ⟨rfl, h', tk, L, rfl, hS, g, kp⟩ := hr
            repeat (any_goals (first | assumption | wp_step))
            exact q _ _ _ hS g kp
          | _ => exact hr.elim
    | _ => exact hr.elim
end
end Cb

set_option Elab.async false
set_option linter.all false
set_option maxRecDepth 100000
/-! Cm, part A: what the meanings give, by what is wanted behind them. -/
namespace Cb
open PySem PySem.Spec PyProof.Rows L2

def Ok {α : Type} (r : Res α) (Q : α → Mem → Prop) : Prop := match r with
  | .ok a M => Q a M
  | _ => False
@[simp] theorem Ok_ok {α : Type} (a : α) (M : Mem) (Q : α → Mem → Prop) : Ok (.ok a M) Q = Q a M := rfl
@[simp] theorem Ok_bad {α : Type} (Q : α → Mem → Prop) : Ok (.bad : Res α) Q = False := rfl
@[simp] theorem Ok_err {α : Type} (x : Xc) (M : Mem) (Q : α → Mem → Prop) : Ok (.err x M : Res α) Q = False := rfl
@[simp] theorem Ok_bind {α β : Type} (r : Res α) (f : α → Mem → Res β) (Q : β → Mem → Prop) : Ok (r.bind f) Q = Ok r fun a M => Ok (f a M) Q := by
  cases r <;> rfl
@[simp] theorem Ok_map {α β : Type} (r : Res α) (f : α → β) (Q : β → Mem → Prop) : Ok (r.map f) Q = Ok r fun a M => Q (f a) M := by
  cases r <;> rfl
@[simp] theorem Ok_stl (r : Res Ev) (Q : D → Mem → Prop) : Ok (stl r) Q = Ok r fun e M => Q e.stl M := Ok_map r _ Q
@[simp] theorem Ok_ne {α : Type} (r : Res α) (Q : α → Mem → Prop) : Ok (ne r) Q = Ok r Q := by
  cases r <;> rfl
@[simp] theorem Ok_ite {α : Type} (c : Prop) [Decidable c] (r s : Res α) (Q : α → Mem → Prop) : Ok (if c then r else s) Q = if c then Ok r Q else Ok s Q := by
  split <;> rfl
theorem Ok.mono {α : Type} {r : Res α} {Q Q' : α → Mem → Prop} (h : Ok r Q) (i : ∀ a M, Q a M → Q' a M) : Ok r Q' := by
  cases r with
  | ok a M => exact i a M h
  | err _ _ => exact h
  | bad => exact h
theorem Ok.get {α : Type} {r : Res α} {Q : α → Mem → Prop} (h : Ok r Q) : ∃ a M, r = .ok a M ∧ Q a M := by
  cases r with
  | ok a M => exact ⟨a, M, rfl, h⟩
  | err _ _ => exact h.elim
  | bad => exact h.elim
@[simp] theorem Ok_ofO (r : Option Ev) (M : Mem) (Q : Ev → Mem → Prop) : Ok (ofO r M) Q = ∃ x, r = some x ∧ Q x M := by
  cases r with
  | none => simp [ofO]
  | some x => simp [ofO]
@[simp] theorem Ok_ofM (r : Option (Ev × Mem)) (Q : Ev → Mem → Prop) : Ok (ofM r) Q = ∃ x N, r = some (x, N) ∧ Q x N := by
  cases r with
  | none => simp [ofM]
  | some x => obtain ⟨x, N⟩ := x; exact propext ⟨fun h => ⟨x, N, rfl, h⟩, fun ⟨y, N', e, h⟩ => by cases e; exact h⟩
/-- the rest of a block, not looked at before its turn -/
def Seq (r : SFn) (QS : Out → Mem → Prop) : Out → Mem → Prop := fun o M1 => match o with
  | .nx ρ' => Ok (r ρ' M1) QS
  | .bk ρ' => QS (.bk ρ') M1
  | .ct ρ' => QS (.ct ρ') M1
  | .rt e => QS (.rt e) M1
theorem Seq_nx (r : SFn) (QS : Out → Mem → Prop) (ρ : Env) (M : Mem) : Seq r QS (.nx ρ) M = Ok (r ρ M) QS := rfl
theorem Seq_bk (r : SFn) (QS : Out → Mem → Prop) (ρ : Env) (M : Mem) : Seq r QS (.bk ρ) M = QS (.bk ρ) M := rfl
theorem Seq_ct (r : SFn) (QS : Out → Mem → Prop) (ρ : Env) (M : Mem) : Seq r QS (.ct ρ) M = QS (.ct ρ) M := rfl
theorem Seq_rt (r : SFn) (QS : Out → Mem → Prop) (e : Ev) (M : Mem) : Seq r QS (.rt e) M = QS (.rt e) M := rfl
/-- two ways, not looked at before it is known which -/
def Br {α : Type} (b : Bool) (r s : Res α) (Q : α → Mem → Prop) : Prop := if b = true then Ok r Q else Ok s Q
theorem Br_true {α : Type} (r s : Res α) (Q : α → Mem → Prop) : Br true r s Q = Ok r Q := rfl
theorem Br_false {α : Type} (r s : Res α) (Q : α → Mem → Prop) : Br false r s Q = Ok s Q := rfl
theorem Br.by {α : Type} {b : Bool} {r s : Res α} {Q : α → Mem → Prop} (h1 : b = true → Ok r Q) (h2 : b = false → Ok s Q) : Br b r s Q := by
  cases b with
  | true => exact h1 rfl
  | false => exact h2 rfl
section
variable (ρ : Env) (M : Mem) (φ ψ χ : PFn) (α β : AFn) (t u : TFn) (s r : SFn) (Q : Ev → Mem → Prop) (QT : Bool → Mem → Prop) (QA : List D → Mem → Prop) (QS : Out → Mem → Prop)
@[simp] theorem ok_eBin (g : D → D → Mem → Option Ev) : Ok (eBin g φ ψ ρ M) Q = Ok (φ ρ M) fun x M1 => Ok (ψ ρ M1) fun y M2 => ∃ z, g x.stl y.stl M2 = some z ∧ Q z M2 := by
  simp only [eBin, Ok_bind, Ok_stl, Ok_ofO]
@[simp] theorem ok_eUn (g : D → Mem → Option Ev) : Ok (eUn g φ ρ M) Q = Ok (φ ρ M) fun x M1 => ∃ z, g x.stl M1 = some z ∧ Q z M1 := by
  simp only [eUn, Ok_bind, Ok_stl, Ok_ofO]
@[simp] theorem ok_eVar (i : Nat) : Ok (eVar i ρ M) Q = ∃ x, ρ[i]? = some (some x) ∧ Q (.d x) M := by
  unfold eVar
  split
  · rename_i x e; simp [e]
  · rename_i h
    simp only [Ok_bad, eq_iff_iff, false_iff, not_exists, not_and]
    exact fun x e => (h x e).elim
@[simp] theorem ok_eD (d : D) : Ok (eD d ρ M) Q = Q (.d d) M := rfl
@[simp] theorem ok_eIf : Ok (eIf t φ ψ ρ M) Q = Ok (t ρ M) fun b M1 => Br b (φ ρ M1) (ψ ρ M1) Q := by
  simp only [eIf, Ok_bind, Ok_ite, Br]
@[simp] theorem ok_tVal : Ok (tVal φ ρ M) QT = Ok (φ ρ M) fun x M1 => ∃ b, x.stl = .p (.bool b) ∧ QT b M1 := by
  simp only [tVal, Ok_bind, Ok_stl]
  congr 1
  funext e M1
  cases e.stl with
  | p d => cases d <;> simp [asB]
  | _ => simp [asB]
@[simp] theorem ok_tNot : Ok (tNot t ρ M) QT = Ok (t ρ M) fun b M1 => QT (!b) M1 := by
  simp only [tNot, Ok_map]
@[simp] theorem ok_tAnd : Ok (tAnd t u ρ M) QT = Ok (t ρ M) fun b M1 => Br b (u ρ M1) (.ok false M1) QT := by
  simp only [tAnd, Ok_bind, Ok_ite, Br]
@[simp] theorem ok_tOr : Ok (tOr t u ρ M) QT = Ok (t ρ M) fun b M1 => Br b (.ok true M1) (u ρ M1) QT := by
  simp only [tOr, Ok_bind, Ok_ite, Br]
@[simp] theorem ok_tTrue : Ok (tTrue ρ M) QT = QT true M := rfl
@[simp] theorem ok_aNil : Ok (aNil ρ M) QA = QA [] M := rfl
@[simp] theorem ok_aCons : Ok (aCons φ α ρ M) QA = Ok (φ ρ M) fun x M1 => Ok (α ρ M1) fun xs M2 => QA (x.stl :: xs) M2 := by
  simp only [aCons, Ok_bind, Ok_stl, Ok_ok]
@[simp] theorem ok_eTup : Ok (eTup α ρ M) Q = Ok (α ρ M) fun ds M1 => ∃ xs M2, purs ds M1 = some (xs, M2) ∧ xs.length ≤ sizeLine ∧ Q (.d (.p (.tuple xs))) M2 := by
  simp only [eTup, Ok_bind]
  congr 1
  funext ds M1
  cases e : purs ds M1 with
  | none => simp
  | some x =>
    obtain ⟨xs, M2⟩ := x
    refine propext ⟨fun h => ?_, fun ⟨ys, M3, e, hz, h⟩ => ?_⟩
    · simp only [Ok_ite, Ok_ok, Ok_bad] at h
      split at h
      · exact ⟨xs, M2, rfl, by assumption, h⟩
      · exact h.elim
    · cases e
      simp only [if_pos hz, Ok_ok]
      exact h
@[simp] theorem ok_eLst : Ok (eLst α ρ M) Q = Ok (α ρ M) fun ds M1 => ∃ xs M2, purs ds M1 = some (xs, M2) ∧ xs.length ≤ sizeLine ∧ Q (.new (.lst xs)) M2 := by
  simp only [eLst, Ok_bind]
  congr 1
  funext ds M1
  cases e : purs ds M1 with
  | none => simp
  | some x =>
    obtain ⟨xs, M2⟩ := x
    refine propext ⟨fun h => ?_, fun ⟨ys, M3, e, hz, h⟩ => ?_⟩
    · simp only [Ok_ite, Ok_ok, Ok_bad] at h
      split at h
      · exact ⟨xs, M2, rfl, by assumption, h⟩
      · exact h.elim
    · cases e
      simp only [if_pos hz, Ok_ok]
      exact h
@[simp] theorem ok_eCallB (g : List D → Mem → Option (Ev × Mem)) : Ok (eCallB g α ρ M) Q = Ok (α ρ M) fun ds M1 => ∃ z N, g ds M1 = some (z, N) ∧ Q z N := by
  simp only [eCallB, Ok_bind, Ok_ofM]
@[simp] theorem ok_eSl (l u : OFn) : Ok (eSl φ l u ρ M) Q = Ok (φ ρ M) fun x M1 => Ok (l ρ M1) fun i M2 => Ok (u ρ M2) fun j M3 => ∃ z, dSl i j x.stl M3 = some z ∧ Q z M3 := by
  simp only [eSl, Ok_bind, Ok_stl, Ok_ofO]
@[simp] theorem ok_oNone (QO : Option Int → Mem → Prop) : Ok (oNone ρ M) QO = QO none M := rfl
@[simp] theorem ok_oSome (QO : Option Int → Mem → Prop) : Ok (oSome φ ρ M) QO = Ok (φ ρ M) fun x M1 => ∃ i, x.stl = .p (.int i) ∧ QO (some i) M1 := by
  simp only [oSome, Ok_bind, Ok_stl]
  congr 1
  funext e M1
  cases e.stl with
  | p d => cases d <;> simp [asI]
  | _ => simp [asI]
@[simp] theorem ok_asB (x : D) : Ok (asB x M) QT = ∃ b, x = .p (.bool b) ∧ QT b M := by
  cases x with
  | p d => cases d <;> simp [asB]
  | _ => simp [asB]
@[simp] theorem ok_eNot : Ok (eNot φ ρ M) Q = Ok (φ ρ M) fun x M1 => ∃ b, x.stl = .p (.bool b) ∧ Q (.d (.p (.bool (!b)))) M1 := by
  simp only [eNot, Ok_bind, Ok_stl, ok_asB, Ok_ok]
@[simp] theorem ok_eAnd : Ok (eAnd φ ψ ρ M) Q = Ok (φ ρ M) fun x M1 => ∃ b, x.stl = .p (.bool b) ∧ Br b (ψ ρ M1) (.ok (.d (.p (.bool false))) M1) Q := by
  simp only [eAnd, Ok_bind, Ok_stl, ok_asB, Ok_ite, Br]
@[simp] theorem ok_eOr : Ok (eOr φ ψ ρ M) Q = Ok (φ ρ M) fun x M1 => ∃ b, x.stl = .p (.bool b) ∧ Br b (.ok (.d (.p (.bool true))) M1) (ψ ρ M1) Q := by
  simp only [eOr, Ok_bind, Ok_stl, ok_asB, Ok_ite, Br]
@[simp] theorem ok_eAl : Ok (eAl φ ρ M) Q = Ok (φ ρ M) fun e M1 => match e with
    | .d x => Q (.d x) M1
    | .new o => Q (.d (.obj M1.length)) (M1 ++ [o]) := by
  simp only [eAl, Ok_bind]
  congr 1
  funext e M1
  cases e <;> rfl
/-- a call: what the def gives -/
@[simp] theorem ok_eCallU (fs : FS) (n m : Nat) (plan : List Src) : Ok (eCallU fs n m plan α β ρ M) Q = Ok (α ρ M) fun ds M1 => Ok (β ρ M1) fun es M2 => (ds.length = n ∧ es.length = m) ∧ ∃ bs, planD plan (ds ++ es) = some bs ∧ Ok (fs bs M2) Q := by
  simp only [eCallU, Ok_bind]
  congr 1
  funext ds M1
  congr 1
  funext es M2
  by_cases hl : ds.length = n ∧ es.length = m
  · rw [if_pos hl]
    cases e : planD plan (ds ++ es) with
    | none => simp
    | some bs => simp [hl]
  · rw [if_neg hl]
    simp [hl]
/-- a method -/
@[simp] theorem ok_eMth (gm : String → Option (D → List D → Mem → Option (Ev × Mem))) : Ok (eMth gm φ α ρ M) Q = Ok (φ ρ M) fun x M1 => ∃ ty, kindD x.stl M1 = some ty ∧ ∃ g, gm ty = some g ∧ Ok (α ρ M1) fun ds M2 => ∃ z N, g x.stl ds M2 = some (z, N) ∧ Q z N := by
  simp only [eMth, Ok_bind, Ok_stl]
  congr 1
  funext e M1
  cases e1 : kindD e.stl M1 with
  | none => simp
  | some ty =>
    cases e2 : gm ty with
    | none => simp [e2]
    | some g =>
      simp only [e2, Ok_bind, Ok_ofM, Option.some.injEq]
      refine propext ⟨fun h => ⟨ty, rfl, g, e2, h⟩, fun ⟨ty', a, g', b, h⟩ => ?_⟩
      subst a
      rw [e2] at b
      cases b
      exact h
/-! statements -/
@[simp] theorem ok_sSeq : Ok (sSeq s r ρ M) QS = Ok (s ρ M) (Seq r QS) := by
  simp only [sSeq, thenS, Ok_bind]
  congr 1
  funext o M1
  cases o <;> rfl
@[simp] theorem ok_sNx : Ok (sNx ρ M) QS = QS (.nx ρ) M := rfl
@[simp] theorem ok_sBk : Ok (sBk ρ M) QS = QS (.bk ρ) M := rfl
@[simp] theorem ok_sCt : Ok (sCt ρ M) QS = QS (.ct ρ) M := rfl
@[simp] theorem ok_sDrop : Ok (sDrop φ ρ M) QS = Ok (φ ρ M) fun _ M1 => QS (.nx ρ) M1 := by
  simp only [sDrop, Ok_bind, Ok_stl, Ok_ok]
@[simp] theorem ok_sRet : Ok (sRet φ ρ M) QS = Ok (φ ρ M) fun e M1 => QS (.rt e) M1 := by
  simp only [sRet, Ok_bind, Ok_ok]
@[simp] theorem ok_sRetN : Ok (sRetN ρ M) QS = QS (.rt (.d (.p .none))) M := rfl
@[simp] theorem ok_sIf : Ok (sIf t s r ρ M) QS = Ok (t ρ M) fun b M1 => Br b (s ρ M1) (r ρ M1) QS := by
  simp only [sIf, Ok_bind, Ok_ite, Br]
@[simp] theorem ok_sSet (i : Nat) : Ok (sSet i φ ρ M) QS = Ok (φ ρ M) fun e M1 => QS (.nx (ρ.set i (some e.stl))) M1 := by
  simp only [sSet, Ok_bind, Ok_stl, Ok_ok]
@[simp] theorem ok_sPar (i j : Nat) : Ok (sPar i j α ρ M) QS = Ok (α ρ M) fun ds M1 => ∃ x y, ds = [x, y] ∧ QS (.nx ((ρ.set i (some x)).set j (some y))) M1 := by
  simp only [sPar, Ok_bind]
  congr 1
  funext ds M1
  match ds with
  | [] => simp
  | [_] => simp
  | [x, y] => exact propext ⟨fun h => ⟨x, y, rfl, h⟩, fun ⟨_, _, e, h⟩ => by cases e; exact h⟩
  | _ :: _ :: _ :: _ => simp
@[simp] theorem ok_sSto (φo φi φv : PFn) : Ok (sSto φo φi φv ρ M) QS = Ok (φv ρ M) fun v M1 => Ok (φo ρ M1) fun o M2 => Ok (φi ρ M2) fun i M3 => ∃ M4, dSet o.stl i.stl v.stl M3 = some M4 ∧ QS (.nx ρ) M4 := by
  simp only [sSto, Ok_bind, Ok_stl]
  congr 1
  funext v M1
  congr 1
  funext o M2
  congr 1
  funext i M3
  cases e : dSet o.stl i.stl v.stl M3 <;> simp
@[simp] theorem ok_sFor (ι : IFn) (γ : GFn) (b e : SFn) : Ok (sFor ι γ b e ρ M) QS = Ok (ι ρ M) fun st M1 => Ok (forL st γ b e FUEL 0 ρ M1) QS := by
  simp only [sFor, Ok_bind]
@[simp] theorem ok_iE (QI : Stp → Mem → Prop) : Ok (iE φ ρ M) QI = Ok (φ ρ M) fun x M1 => ∃ st, iVal x.stl M1 = some st ∧ QI st M1 := by
  simp only [iE, Ok_bind, Ok_stl]
  congr 1
  funext e M1
  cases e1 : iVal e.stl M1 <;> simp [ofI]
@[simp] theorem ok_iRg (k : List D → Option Stp) (QI : Stp → Mem → Prop) : Ok (iRg k α ρ M) QI = Ok (α ρ M) fun ds M1 => ∃ st, k ds = some st ∧ QI st M1 := by
  simp only [iRg, Ok_bind]
  congr 1
  funext ds M1
  cases e1 : k ds <;> simp [ofI]
@[simp] theorem ok_eLc (ι : IFn) (γ : GFn) (vs : List Nat) : Ok (eLc ι γ t φ vs ρ M) Q = Ok (ι ρ M) fun st M1 => Ok (lcL st γ t φ vs FUEL 0 [] ρ M1) Q := by
  simp only [eLc, Ok_bind]
@[simp] theorem ok_defF (n : Nat) (ds : List D) (Q : Ev → Mem → Prop) : Ok (defF n s ds M) Q = Ok (s (startE n ds) M) fun o M1 => Ok (fin M.length (.ok o M1)) Q := by
  unfold defF
  cases s (startE n ds) M <;> rfl
end
theorem dAdd_int (i j : Int) (M : Mem) : dAdd (.p (.int i)) (.p (.int j)) M = some (.d (.p (.int (i + j)))) := rfl
theorem purs_p (d : P) (ds : List D) (M : Mem) : purs (.p d :: ds) M = (purs ds M).map fun x => (d :: x.1, x.2) := by
  rw [purs_cons_p]
  cases purs ds M <;> rfl
theorem planD_nil (ds : List D) : planD [] ds = some [] := rfl
theorem planD_at (i : Nat) (r : List Src) (ds : List D) : planD (.at i :: r) ds = (ds[i]?).bind fun x => (planD r ds).map fun xs => x :: xs := by
  show (match ds[i]?, planD r ds with
    | some x, some xs => some (x :: xs)
    | _, _ => none) = _
  cases ds[i]? with
  | none => rfl
  | some x => cases planD r ds <;> rfl
theorem planD_df (i : Nat) (d : P) (r : List Src) (ds : List D) : planD (.df i d :: r) ds = (planD r ds).map (D.p d :: ·) := rfl
theorem exists_some2 {α β : Type} (a : α) (b : β) (Q : α → β → Prop) : (∃ x y, some (a, b) = some (x, y) ∧ Q x y) = Q a b := propext ⟨fun ⟨_, _, e, h⟩ => by cases e; exact h, fun h => ⟨a, b, rfl, h⟩⟩
theorem exists_pair2 {α β : Type} (a : α) (b : β) (Q : α → β → Prop) : (∃ x y, (a, b) = (x, y) ∧ Q x y) = Q a b := propext ⟨fun ⟨_, _, e, h⟩ => by cases e; exact h, fun h => ⟨a, b, rfl, h⟩⟩
theorem le_line1 : (1 ≤ sizeLine) = True := eq_true (by rw [sizeLine_eq]; decide)
theorem le_line2 : (2 ≤ sizeLine) = True := eq_true (by rw [sizeLine_eq]; decide)
theorem le_line3 : (3 ≤ sizeLine) = True := eq_true (by rw [sizeLine_eq]; decide)
theorem le_line4 : (4 ≤ sizeLine) = True := eq_true (by rw [sizeLine_eq]; decide)
theorem le_line5 : (5 ≤ sizeLine) = True := eq_true (by rw [sizeLine_eq]; decide)
theorem le_line6 : (6 ≤ sizeLine) = True := eq_true (by rw [sizeLine_eq]; decide)
theorem le_line7 : (7 ≤ sizeLine) = True := eq_true (by rw [sizeLine_eq]; decide)
theorem le_line8 : (8 ≤ sizeLine) = True := eq_true (by rw [sizeLine_eq]; decide)
theorem le_line9 : (9 ≤ sizeLine) = True := eq_true (by rw [sizeLine_eq]; decide)
theorem le_line10 : (10 ≤ sizeLine) = True := eq_true (by rw [sizeLine_eq]; decide)
theorem le_line11 : (11 ≤ sizeLine) = True := eq_true (by rw [sizeLine_eq]; decide)
theorem le_line12 : (12 ≤ sizeLine) = True := eq_true (by rw [sizeLine_eq]; decide)
theorem exists_two {α : Type} (a b : α) (Q : α → α → Prop) : (∃ x y, [a, b] = [x, y] ∧ Q x y) = Q a b := propext ⟨fun ⟨_, _, e, h⟩ => by cases e; exact h, fun h => ⟨a, b, rfl, h⟩⟩
theorem fin_d (n : Nat) (d : P) (M : Mem) : fin n (.ok (.rt (.d (.p d))) M) = .ok (.d (.p d)) (M.take n) := rfl
end Cb

set_option Elab.async false
set_option linter.all false
set_option maxRecDepth 100000
/-! Cm, part C: the operations on data with a Lean type. -/
namespace Cb
open PySem PySem.Spec PyProof.Rows L2
open PySem.W (Datum DatumOrd Tup)

/-! ### whole numbers -/
theorem okP_int (i : Int) : okP (.int i) = true := by simp [okP, PyData.plain, PyData.depth]
theorem cmpOk_int (i j : Int) : cmpOk (.int i) (.int j) = true := by simp [cmpOk, okP_int, PySem.W.alike, isNoneP]
theorem gLt_int (i j : Int) : gLt (.int i) (.int j) = some (.bool (decide (i < j))) := by simp [gLt, cmpOk_int, PySem.W.dataLt_int]
theorem gGt_int (i j : Int) : gGt (.int i) (.int j) = some (.bool (decide (j < i))) := by simp [gGt, cmpOk_int, PySem.W.dataLt_int]
theorem gLe_int (i j : Int) : gLe (.int i) (.int j) = some (.bool (decide (i ≤ j))) := by
  simp only [gLe, cmpOk_int, PySem.W.dataLt_int, if_true, PySem.W.not_lt_int]
theorem gGe_int (i j : Int) : gGe (.int i) (.int j) = some (.bool (decide (j ≤ i))) := by
  simp only [gGe, cmpOk_int, PySem.W.dataLt_int, if_true, PySem.W.not_lt_int]
theorem gEq_int (i j : Int) : gEq (.int i) (.int j) = some (.bool (decide (i = j))) := by
  simp only [gEq, okP_int, Bool.and_self, if_true, PyData.eqv, PySem.W.beq_decide]
theorem gNe_int (i j : Int) : gNe (.int i) (.int j) = some (.bool (!decide (i = j))) := by
  simp only [gNe, okP_int, Bool.and_self, if_true, PyData.eqv, PySem.W.beq_decide]
theorem iMod_pos {i j : Int} (h : 0 < j) : iMod i j = some (.int (i % j)) := if_pos h
theorem iDiv_pos {i j : Int} (h : 0 < j) (h2 : j < 1073741824) : iDiv i j = some (.int (i / j)) := if_pos ⟨h, h2⟩
theorem iSub_eq (i j : Int) : iSub i j = some (.int (i - j)) := rfl
theorem iMul_l {i j : Int} (h1 : -18446744073709551616 < i) (h2 : i < 18446744073709551616) : iMul i j = some (.int (i * j)) := by
  unfold iMul cMul
  have e : (2 : Int) ^ 64 = 18446744073709551616 := by decide
  rw [e, decide_eq_true h1, decide_eq_true h2]
  rfl
theorem iPow_ok {i : Int} {j : Nat} (h1 : -18446744073709551616 < i) (h2 : i < 18446744073709551616) (h3 : j ≤ 1000000) : iPow i (j : Int) = some (.int (i ^ j)) := by
  have e : (2 : Nat) ^ 64 = 18446744073709551616 := by decide
  unfold iPow
  rw [if_pos ⟨by omega, by omega, by rw [e]; omega⟩]
  rfl

/-! ### data with a type -/
section
variable {α β : Type} [DecidableEq α] [DatumOrd α] [DecidableEq β] [DatumOrd β]
theorem okP_toD (h : Datum.depth α ≤ 60) (a : α) : okP (Datum.toD a) = true := by
  unfold okP
  rw [Datum.plain a, Bool.true_and, decide_eq_true_eq]
  exact Nat.le_trans (Datum.depth_le a) h
theorem gEq_toD (h : Datum.depth α ≤ 60) (a b : α) : gEq (Datum.toD a) (Datum.toD b) = some (.bool (decide (a = b))) := by
  unfold gEq
  rw [okP_toD h, okP_toD h, Bool.and_self, if_pos rfl, Datum.eqv]
theorem gNe_toD (h : Datum.depth α ≤ 60) (a b : α) : gNe (Datum.toD a) (Datum.toD b) = some (.bool (!decide (a = b))) := by
  unfold gNe
  rw [okP_toD h, okP_toD h, Bool.and_self, if_pos rfl, Datum.eqv]
theorem cmpOk_toD (h : Datum.depth α ≤ 60) (a b : α) : cmpOk (Datum.toD a) (Datum.toD b) = true := by
  unfold cmpOk
  rw [okP_toD h, okP_toD h, DatumOrd.alike]
  have := DatumOrd.notNone a
  cases e : (Datum.toD a : PyData) <;> first | rfl | exact absurd e this
theorem gLt_toD (h : Datum.depth α ≤ 60) (a b : α) : gLt (Datum.toD a) (Datum.toD b) = some (.bool (DatumOrd.lt a b)) := by
  unfold gLt
  rw [if_pos (cmpOk_toD h a b), DatumOrd.lt_eq]
theorem any_eqv (xs : List α) (a : α) : ((xs.map Datum.toD).any fun z => PyData.eqv z (Datum.toD a)) = decide (a ∈ xs) := by
  rw [Bool.eq_iff_iff, List.any_eq_true, decide_eq_true_eq]
  constructor
  · rintro ⟨d, hd, e⟩
    obtain ⟨b, hb, rfl⟩ := List.mem_map.mp hd
    rw [Datum.eqv, decide_eq_true_eq] at e
    exact e ▸ hb
  · intro h
    exact ⟨Datum.toD a, List.mem_map.mpr ⟨a, h, rfl⟩, by rw [Datum.eqv]; simp⟩
theorem inP_tuple (h : Datum.depth α + 1 ≤ 60) (a : α) (xs : List α) : inP (Datum.toD a) (.tuple (xs.map Datum.toD)) = some (decide (a ∈ xs)) := by
  have : okP (.tuple (xs.map Datum.toD)) = true := okP_toD (α := Tup α) h ⟨xs⟩
  show (if _ then _ else _) = _
  rw [okP_toD (Nat.le_of_succ_le h), this, Bool.and_self, if_pos rfl, any_eqv]
theorem inP_list (h : Datum.depth α + 1 ≤ 60) (a : α) (xs : List α) : inP (Datum.toD a) (.list (xs.map Datum.toD)) = some (decide (a ∈ xs)) := by
  have : okP (.list (xs.map Datum.toD)) = true := okP_toD (α := List α) h xs
  show (if _ then _ else _) = _
  rw [okP_toD (Nat.le_of_succ_le h), this, Bool.and_self, if_pos rfl, any_eqv]
theorem gIn_tuple (h : Datum.depth α + 1 ≤ 60) (a : α) (xs : List α) : gIn (Datum.toD a) (.tuple (xs.map Datum.toD)) = some (.bool (decide (a ∈ xs))) := by
  unfold gIn; rw [inP_tuple h]; rfl
theorem gNotIn_tuple (h : Datum.depth α + 1 ≤ 60) (a : α) (xs : List α) : gNotIn (Datum.toD a) (.tuple (xs.map Datum.toD)) = some (.bool (!decide (a ∈ xs))) := by
  unfold gNotIn; rw [inP_tuple h]; rfl
theorem gIn_list (h : Datum.depth α + 1 ≤ 60) (a : α) (xs : List α) : gIn (Datum.toD a) (.list (xs.map Datum.toD)) = some (.bool (decide (a ∈ xs))) := by
  unfold gIn; rw [inP_list h]; rfl
theorem gNotIn_list (h : Datum.depth α + 1 ≤ 60) (a : α) (xs : List α) : gNotIn (Datum.toD a) (.list (xs.map Datum.toD)) = some (.bool (!decide (a ∈ xs))) := by
  unfold gNotIn; rw [inP_list h]; rfl

/-! sorting -/
def tLe (a b : α) : Bool := !DatumOrd.lt b a
def srt (xs : List α) : List α := xs.mergeSort tLe
theorem tLe_toks (a b : α) : tLe a b = !PyProof.Rows.lexLt PyProof.Rows.itemOrd (PySem.W.keyToks (Datum.toD b)) (PySem.W.keyToks (Datum.toD a)) := by
  unfold tLe
  rw [← DatumOrd.lt_eq]
  rfl
theorem toks_inj {a b : α} (h : PySem.W.keyToks (Datum.toD a) = PySem.W.keyToks (Datum.toD b)) : a = b := by
  by_cases e : a = b
  · exact e
  · have ev : PyData.eqv (Datum.toD a) (Datum.toD b) = false := by rw [Datum.eqv]; simpa using e
    have := (PySem.W.toks_eqv _ _ (DatumOrd.alike a b)).2 ev [] [.inl 0]
    rw [h, PySem.W.lex_pre, PyProof.Rows.lex_irrefl] at this
    cases this
theorem tLe_trans (a b c : α) : tLe a b = true → tLe b c = true → tLe a c = true := by
  rw [tLe_toks, tLe_toks, tLe_toks, Bool.not_eq_true', Bool.not_eq_true', Bool.not_eq_true']
  intro h1 h2
  cases e : PyProof.Rows.lexLt PyProof.Rows.itemOrd (PySem.W.keyToks (Datum.toD c)) (PySem.W.keyToks (Datum.toD a)) with
  | false => rfl
  | true =>
    rcases PyProof.Rows.lex_negTrans _ (PySem.W.keyToks (Datum.toD b)) _ e with q | q
    · rw [h2] at q; cases q
    · rw [h1] at q; cases q
theorem tLe_total (a b : α) : (tLe a b || tLe b a) = true := by
  rw [tLe_toks, tLe_toks]
  cases e : PyProof.Rows.lexLt PyProof.Rows.itemOrd (PySem.W.keyToks (Datum.toD b)) (PySem.W.keyToks (Datum.toD a)) with
  | false => rfl
  | true =>
    cases e2 : PyProof.Rows.lexLt PyProof.Rows.itemOrd (PySem.W.keyToks (Datum.toD a)) (PySem.W.keyToks (Datum.toD b)) with
    | false => rfl
    | true =>
      have := PyProof.Rows.lex_trans _ _ _ e e2
      rw [PyProof.Rows.lex_irrefl] at this
      cases this
theorem tLe_antisymm {a b : α} (h1 : tLe a b = true) (h2 : tLe b a = true) : a = b := by
  rw [tLe_toks, Bool.not_eq_true'] at h1 h2
  exact toks_inj (PyProof.Rows.lex_total _ _ h2 h1)
theorem srt_perm (xs : List α) : (srt xs).Perm xs := List.mergeSort_perm _ _
theorem srt_pairwise (xs : List α) : (srt xs).Pairwise fun a b => tLe a b = true := List.pairwise_mergeSort tLe_trans tLe_total xs
theorem srt_eq {xs ys : List α} (h : xs.Perm ys) : srt xs = srt ys :=
  List.Perm.eq_of_pairwise (fun _ _ _ _ => tLe_antisymm) (srt_pairwise xs) (srt_pairwise ys) ((srt_perm xs).trans (h.trans (srt_perm ys).symm))
theorem srt_of {xs : List α} (h : xs.Pairwise fun a b => tLe a b = true) : srt xs = xs := List.mergeSort_of_pairwise h
theorem mem_srt {xs : List α} {a : α} : a ∈ srt xs ↔ a ∈ xs := (srt_perm xs).mem_iff
theorem srt_length (xs : List α) : (srt xs).length = xs.length := (srt_perm xs).length_eq
theorem srt_nodup {xs : List α} : (srt xs).Nodup ↔ xs.Nodup := (srt_perm xs).nodup_iff
theorem sortP_map (xs : List α) : sortP (xs.map Datum.toD) = (srt xs).map Datum.toD := by
  unfold sortP srt
  refine (List.map_mergeSort fun a _ b _ => ?_).symm
  show tLe a b = !PySem.W.dataLt (Datum.toD b) (Datum.toD a)
  rw [DatumOrd.lt_eq]
  rfl
theorem sortOk_map (h : Datum.depth α ≤ 60) {xs : List α} (h2 : (∀ a ∈ xs, tup1 (Datum.toD a) = true) ∨ ∀ a ∈ xs, flat1 (Datum.toD a) = true) : sortOk (xs.map Datum.toD) = true := by
  unfold sortOk
  simp only [Bool.and_eq_true, Bool.or_eq_true, List.all_eq_true, List.mem_map, forall_exists_index, and_imp, forall_apply_eq_imp_iff₂]
  exact ⟨⟨fun a _ => okP_toD h a, fun a _ b _ => DatumOrd.alike a b⟩, h2⟩
end
/-- sorted of texts -/
theorem srt_strs (xs : List Str) (M : Mem) : bSrt [.p (.list (xs.map .str))] M = some (.new (.lst ((srt xs).map .str)), M) := by
  have h1 : sortOk (xs.map .str) = true := sortOk_map (α := Str) (by decide) (.inr fun _ _ => rfl)
  have h2 : sortP (xs.map .str) = (srt xs).map .str := sortP_map (α := Str) xs
  simp only [bSrt, seqP, pv_p, h1, if_true, h2]
theorem srt_strsT (xs : List Str) (M : Mem) : bSrt [.p (.tuple (xs.map .str))] M = some (.new (.lst ((srt xs).map .str)), M) := by
  have h1 : sortOk (xs.map .str) = true := sortOk_map (α := Str) (by decide) (.inr fun _ _ => rfl)
  have h2 : sortP (xs.map .str) = (srt xs).map .str := sortP_map (α := Str) xs
  simp only [bSrt, seqP, pv_p, h1, if_true, h2]
/-- a team: a tuple of texts -/
def tm (xs : List Str) : P := .tuple (xs.map .str)
abbrev mkT (xs : List Str) : Tup Str := ⟨xs⟩
theorem tm_toD (xs : List Str) : tm xs = Datum.toD (mkT xs) := rfl
theorem map_tm (xss : List (List Str)) : xss.map tm = (xss.map mkT).map Datum.toD := by rw [List.map_map]; rfl
/-- sorted teams -/
def srtT (xss : List (List Str)) : List (List Str) := (srt (xss.map mkT)).map (·.items)
theorem srtT_map (xss : List (List Str)) : (srt (xss.map mkT)).map Datum.toD = (srtT xss).map tm := by
  unfold srtT
  rw [List.map_map]
  rfl
theorem srtT_perm (xss : List (List Str)) : (srtT xss).Perm xss := by
  have := (srt_perm (xss.map mkT)).map (·.items)
  rw [List.map_map] at this
  simpa [srtT, Function.comp_def] using this
theorem bSrt_teams {d : D} {M : Mem} {xss : List (List Str)} (hd : seqP d M = some (xss.map tm)) (hne : ∀ xs ∈ xss, xs ≠ []) : bSrt [d] M = some (.new (.lst ((srtT xss).map tm)), M) := by
  have h1 : sortOk (xss.map tm) = true := by
    rw [map_tm]
    refine sortOk_map (α := Tup Str) (by decide) (.inl fun a ha => ?_)
    obtain ⟨xs, hx, rfl⟩ := List.mem_map.mp ha
    cases xs with
    | nil => exact absurd rfl (hne _ hx)
    | cons x r => rfl
  have h2 : sortP (xss.map tm) = (srtT xss).map tm := by rw [map_tm, sortP_map, srtT_map]
  simp only [bSrt, hd, h1, if_true, h2]
theorem seqP_list (xs : List P) (M : Mem) : seqP (.p (.list xs)) M = some xs := rfl
theorem seqP_tuple (xs : List P) (M : Mem) : seqP (.p (.tuple xs)) M = some xs := rfl
theorem seqP_obj {n : Nat} {M : Mem} {xs : List P} (h : M[n]? = some (.lst xs)) : seqP (.obj n) M = some xs := by simp only [seqP, pv, h]
theorem pv_obj {n : Nat} {M : Mem} {xs : List P} (h : M[n]? = some (.lst xs)) : pv (.obj n) M = some (.list xs) := by simp only [pv, h]
theorem len_list (xs : List P) (M : Mem) : bLen [.p (.list xs)] M = some (.d (.p (.int xs.length)), M) := rfl
theorem len_tuple (xs : List P) (M : Mem) : bLen [.p (.tuple xs)] M = some (.d (.p (.int xs.length)), M) := rfl
theorem len_obj {n : Nat} {M : Mem} {xs : List P} (h : M[n]? = some (.lst xs)) : bLen [.obj n] M = some (.d (.p (.int xs.length)), M) := by simp only [bLen, pv_obj h]
theorem tup_list (xs : List P) (M : Mem) : bTuple [.p (.list xs)] M = some (.d (.p (.tuple xs)), M) := rfl
theorem tup_tuple (xs : List P) (M : Mem) : bTuple [.p (.tuple xs)] M = some (.d (.p (.tuple xs)), M) := rfl
theorem lst_list (xs : List P) (M : Mem) : bList [.p (.list xs)] M = some (.new (.lst xs), M) := rfl
theorem lst_tuple (xs : List P) (M : Mem) : bList [.p (.tuple xs)] M = some (.new (.lst xs), M) := rfl
theorem atI_nat' {α : Type} (xs : List α) (k : Nat) : atI xs (k : Int) = xs[k]? := by
  unfold atI ixN
  rw [if_pos (by omega)]
  by_cases h : (k : Int) < (xs.length : Nat)
  · rw [if_pos h]; rfl
  · rw [if_neg h, List.getElem?_eq_none (by omega)]; rfl
theorem sub_list (xs : List P) (i : Int) (M : Mem) : dSub (.p (.list xs)) (.p (.int i)) M = (atI xs i).map fun z => .d (.p z) := rfl
theorem sub_tuple (xs : List P) (i : Int) (M : Mem) : dSub (.p (.tuple xs)) (.p (.int i)) M = (atI xs i).map fun z => .d (.p z) := rfl
end Cb

set_option Elab.async false
set_option linter.all false
set_option maxRecDepth 100000
/-! Cb, part T: sorted of a set; sorted(set(xs)). -/
namespace Cb
open PySem PySem.Spec PyProof.Rows L2
open PySem.W (Datum DatumOrd Tup EachIs)

theorem each_perm {α β : Type} {R : α → β → Prop} {us vs : List α} (p : vs.Perm us) : ∀ {as : List β}, EachIs R us as → ∃ bs, bs.Perm as ∧ EachIs R vs bs := by
  induction p with
  | nil => exact fun e => ⟨_, List.Perm.refl _, e⟩
  | cons x _ ih =>
    intro as e
    cases e with
    | cons h t =>
      obtain ⟨bs, p1, e1⟩ := ih t
      exact ⟨_ :: bs, p1.cons _, .cons h e1⟩
  | swap x y l =>
    intro as e
    cases e with
    | cons h t =>
      cases t with
      | cons h2 t2 => exact ⟨_, List.Perm.swap _ _ _, .cons h2 (.cons h t2)⟩
  | trans _ _ ih1 ih2 =>
    intro as e
    obtain ⟨bs, p1, e1⟩ := ih2 e
    obtain ⟨cs, p2, e2⟩ := ih1 e1
    exact ⟨cs, p2.trans p1, e2⟩
section
variable {P : Program} {w : World} {A : Around} {E : Value → Shared → Prop} {s : Shared} {K α : Type} [DecidableEq α] [DatumOrd α]
theorem merge_srt (xs : List α) : xs.mergeSort (PySem.W.dataLe false Datum.toD) = srt xs := by
  unfold srt
  congr 1
  funext a b
  show (!PySem.W.dataLt (Datum.toD b) (Datum.toD a)) = !DatumOrd.lt b a
  rw [DatumOrd.lt_eq]
open PySem.W PySem.Calls in
/-- sorted of a set -/
theorem sk_sorted (T : SKind P w K) {a : Addr} {L : List (Value × K)} {R : Value → α → Prop} {as : List α} {Q : Value → Shared → Prop} (hS : T.St s.heap a L) (hh : A.handled = none) (e : EachIs R (L.map (·.1)) as) (len : L.length ≤ sizeLine)
    (read : ∀ h' v b, (∀ c o, s.heap.get? c = some o → h'.get? c = some o) → R v b → ∃ bs, Reads h' v (Datum.toD b) bs) (hu : ∀ b : α, A.units + 2 + (Datum.toD b).depth < cLine) (srtb : Sortable (as.map Datum.toD))
    (q : ∀ s' p c (out : List Value), (∀ b o, s.heap.get? b = some o → s'.heap.get? b = some o) → s'.gens = s.gens → s'.os = s.os → s.heap.objs.size ≤ p → s'.heap.get? p = some (seqObj "list" out.toArray c) → EachIs R out (srt as) → Q (.ref p) s') :
    wpAny (model P w) A (call (.builtin "sorted") [.ref a]) Q E s := by
  obtain ⟨es, ep, t, k1, k2, k3, k4, k5, k6⟩ := T.look hS
  refine call_function_entry_kw kind_sorted plain_sorted entry_sorted (args_sorted1 _) ?_
  unfold Builtin.«sorted»
  refine wpAny_bind (m := checkCount "sorted" 1 1 _) (wpAny_pure ?_)
  refine wpAny_bind (collect_set (A := A.in1) hh k1 k2 k3 k4 k5 fun s1 vs kp sz g o pm => ?_)
  obtain ⟨bs, p1, e1⟩ := each_perm (pm.trans k6) e
  have vl : vs.length ≤ sizeLine := by rw [(pm.trans k6).length_eq, List.length_map]; exact len
  refine wpAny_bind (wpAny_newList ?_ vl)
  have at1 : (s1.heap.push (seqObj "list" vs.toArray 0)).get? s1.heap.objs.size = some (seqObj "list" vs.toArray 0) := Heap.get?_push_size _ rfl
  refine wpAny_bind (wpAny_holding (wpAny_call_entry_kw (s := { s1 with heap := s1.heap.push (seqObj "list" vs.toArray 0) }) slot_list_sort ⟨_, at1, rfl⟩ entry_list_sort ?_ (args_list_sort _)))
  have old : ∀ b o, s.heap.get? b = some o → (sortingHeap (s1.heap.push (seqObj "list" vs.toArray 0)) s1.heap.objs.size vs).get? b = some o := fun b o h => by
    have h1 := kp b o h
    exact sortingHeap_old (Nat.ne_of_lt (Heap.lt_size h1)) (Heap.get?_push_of_some _ h1)
  have er : EachIs (fun v b => ∃ rs, Reads (sortingHeap (s1.heap.push (seqObj "list" vs.toArray 0)) s1.heap.objs.size vs) v (Datum.toD b) rs) vs bs := each_mono_mem e1 fun v b _ r => read _ v b old r
  have al : AllAlike (bs.map Datum.toD) := fun d hd d' hd' => by
    obtain ⟨b, _, rfl⟩ := List.mem_map.mp hd
    obtain ⟨b', _, rfl⟩ := List.mem_map.mp hd'
    exact DatumOrd.alike b b'
  have so : Sortable (bs.map Datum.toD) := by
    have mem : ∀ d, d ∈ bs.map Datum.toD ↔ d ∈ as.map (Datum.toD : α → PyData) := fun d => (p1.map _).mem_iff
    rcases srtb with z | z
    · exact .inl fun d hd => z d ((mem d).mp hd)
    · exact .inr fun d hd => z d ((mem d).mp hd)
  have S := SortsAt.data (prog := P) (w := w) (A := A.in1.in1) (s := { s1 with heap := sortingHeap (s1.heap.push (seqObj "list" vs.toArray 0)) s1.heap.objs.size vs }) (each_map (R := fun v d => ∃ rs, Reads (sortingHeap (s1.heap.push (seqObj "list" vs.toArray 0)) s1.heap.objs.size vs) v d rs) (Datum.toD : α → PyData) er) al so (fun d hd => by
    obtain ⟨b, _, rfl⟩ := List.mem_map.mp hd
    exact hu b)
  refine list_sort_vals (s := { s1 with heap := s1.heap.push (seqObj "list" vs.toArray 0) }) at1 S vl ?_
  have out := sortVals_data (enc := (Datum.toD : α → PyData)) false e1 er al
  rw [merge_srt, srt_eq p1] at out
  obtain ⟨c, hc⟩ := sortedHeap_at (vs := vs) (out := (sortVals (dataKind (sortingHeap (s1.heap.push (seqObj "list" vs.toArray 0)) s1.heap.objs.size vs) (bs.map Datum.toD)) false vs vs).toArray) at1
  refine ⟨_, rfl, wpAny_pure ⟨_, rfl, ?_⟩⟩
  refine q _ s1.heap.objs.size c _ (fun b o h => ?_) g o sz hc out
  have h1 := kp b o h
  have lt := Heap.lt_size h1
  show (sortedHeap (s1.heap.push (seqObj "list" vs.toArray 0)) s1.heap.objs.size vs _).get? b = some o
  rw [sortedHeap_old (Nat.ne_of_lt lt) (by rw [size_push']; exact Nat.lt_succ_of_lt lt)]
  exact Heap.get?_push_of_some _ h1
end
end Cb

set_option Elab.async false
set_option linter.all false
set_option maxRecDepth 100000
/-! Cb, part U: sorted(set(xs)) as one word. -/
namespace Cb
open PySem PySem.Spec PyProof.Rows L2
open PySem.W (Datum DatumOrd Tup EachIs)

/-- each once -/
def dd {α : Type} [DecidableEq α] : List α → List α
  | [] => []
  | x :: xs => if x ∈ dd xs then dd xs else x :: dd xs
theorem mem_dd {α : Type} [DecidableEq α] {a : α} : ∀ {xs : List α}, a ∈ dd xs ↔ a ∈ xs
  | [] => Iff.rfl
  | x :: xs => by
    unfold dd
    split
    · rename_i h
      rw [mem_dd, List.mem_cons]
      exact ⟨.inr, fun z => z.elim (fun e => e ▸ mem_dd.mp h) id⟩
    · rw [List.mem_cons, List.mem_cons, mem_dd]
theorem nodup_dd {α : Type} [DecidableEq α] : ∀ xs : List α, (dd xs).Nodup
  | [] => List.nodup_nil
  | x :: xs => by
    unfold dd
    split
    · exact nodup_dd xs
    · exact List.nodup_cons.mpr ⟨by assumption, nodup_dd xs⟩
theorem dd_length {α : Type} [DecidableEq α] : ∀ xs : List α, (dd xs).length ≤ xs.length
  | [] => Nat.le_refl _
  | x :: xs => by
    unfold dd
    have := dd_length xs
    split
    · rw [List.length_cons]; omega
    · rw [List.length_cons, List.length_cons]; omega
theorem dd_of {α : Type} [DecidableEq α] : ∀ {xs : List α}, xs.Nodup → dd xs = xs
  | [], _ => rfl
  | x :: xs, h => by
    obtain ⟨h1, h2⟩ := List.nodup_cons.mp h
    unfold dd
    rw [dd_of h2, if_neg h1]
theorem perm_dd {α : Type} [DecidableEq α] {xs ys : List α} (n : xs.Nodup) (m : ∀ a, a ∈ xs ↔ a ∈ ys) : xs.Perm (dd ys) := by
  rw [List.perm_ext_iff_of_nodup n (nodup_dd ys)]
  exact fun a => (m a).trans mem_dd.symm
/-- what the members are, read off -/
def strsP : List P → Option (List Str)
  | [] => some []
  | .str x :: r => (strsP r).map (x :: ·)
  | _ :: _ => none
def tmsP : List P → Option (List (List Str))
  | [] => some []
  | .tuple ds :: r => match strsP ds, tmsP r with
    | some x, some y => some (x :: y)
    | _, _ => none
  | _ :: _ => none
def intsP : List P → Option (List Int)
  | [] => some []
  | .int x :: r => (intsP r).map (x :: ·)
  | _ :: _ => none
theorem strsP_of : ∀ {ds : List P} {xs : List Str}, strsP ds = some xs → ds = xs.map .str
  | [], _, h => by cases h; rfl
  | .str x :: r, _, h => by
    rw [strsP] at h
    obtain ⟨y, e, rfl⟩ := Option.map_eq_some_iff.mp h
    rw [strsP_of e]; rfl
  | .none :: _, _, h | .bool _ :: _, _, h | .int _ :: _, _, h | .list _ :: _, _, h | .tuple _ :: _, _, h | .dict _ :: _, _, h => by cases h
theorem intsP_of : ∀ {ds : List P} {xs : List Int}, intsP ds = some xs → ds = xs.map .int
  | [], _, h => by cases h; rfl
  | .int x :: r, _, h => by
    rw [intsP] at h
    obtain ⟨y, e, rfl⟩ := Option.map_eq_some_iff.mp h
    rw [intsP_of e]; rfl
  | .none :: _, _, h | .bool _ :: _, _, h | .str _ :: _, _, h | .list _ :: _, _, h | .tuple _ :: _, _, h | .dict _ :: _, _, h => by cases h
theorem tmsP_of : ∀ {ds : List P} {xs : List (List Str)}, tmsP ds = some xs → ds = xs.map tm
  | [], _, h => by cases h; rfl
  | .tuple d :: r, _, h => by
    rw [tmsP] at h
    split at h
    · rename_i x y e1 e2
      cases h
      rw [strsP_of e1, tmsP_of e2]; rfl
    · cases h
  | .none :: _, _, h | .bool _ :: _, _, h | .str _ :: _, _, h | .list _ :: _, _, h | .int _ :: _, _, h | .dict _ :: _, _, h => by cases h
theorem strsP_map : ∀ xs : List Str, strsP (xs.map .str) = some xs
  | [] => rfl
  | x :: xs => by rw [List.map_cons, strsP, strsP_map xs]; rfl
theorem tmsP_map : ∀ xs : List (List Str), tmsP (xs.map tm) = some xs
  | [] => rfl
  | x :: xs => by rw [List.map_cons, tm, tmsP, strsP_map x, tmsP_map xs]
theorem intsP_map : ∀ xs : List Int, intsP (xs.map .int) = some xs
  | [] => rfl
  | x :: xs => by rw [List.map_cons, intsP, intsP_map xs]; rfl
/-- sorted(set(xs)) -/
def srtSet (xs : List P) : Option (List P) := match strsP xs with
  | some ss => if ss.length < 4000 then some ((srt (dd ss)).map .str) else none
  | none => match tmsP xs with
    | some tt => if tt.length < 64 ∧ (∀ t ∈ tt, t ≠ []) then some ((srt (dd (tt.map mkT))).map Datum.toD) else none
    | none => match intsP xs with
      | some ii => if ii.length < 4000 then some ((srt (dd ii)).map .int) else none
      | none => none
/-- what the set asks of the data's type -/
structure Keyed (P : Program) (w : World) {K : Type} (T : SKind P w K) (α : Type) [DecidableEq α] [DatumOrd α] where
  key : α → K
  inj : ∀ {a b : α}, key a = key b → a = b
  is : ∀ {h : Heap} {u : Value} {a : α} {as : List Addr}, Reads h u (Datum.toD a) as → T.Is h u (key a)
def strKeyed (P : Program) (w : World) : Keyed P w (keySets P w) Str := ⟨Sum.inr, fun e => Sum.inr.inj e, fun {h u a as} r => by
  cases r
  exact keyIs_str _ _⟩
def intKeyed (P : Program) (w : World) : Keyed P w (keySets P w) Int := ⟨Sum.inl, fun e => Sum.inl.inj e, fun {h u a as} r => by
  cases r
  exact keyIs_int _ _⟩
theorem items_read {P : Program} {w : World} {h : Heap} : ∀ {xs : List Str} {us : List Value} {as : List Addr}, ReadsAll h us (xs.map PyData.str) as → ItemsAre (mixKind P w) (xs.map Sum.inr) us
  | [], _, _, r => by cases r; exact .nil
  | x :: xs, _, _, r => by
    cases r with
    | cons r1 r2 =>
      cases r1 with
      | str _ t => exact .cons (k := Sum.inr x) (show (mixKind P w).is (Sum.inr x) (.str x t) = true from keyIs_str x t) (items_read r2)
def tupKeyed (P : Program) (w : World) : Keyed P w (tupSets P w) (Tup Str) := ⟨fun t => t.items.map Sum.inr, fun {a b} e => by
  obtain ⟨a⟩ := a
  obtain ⟨b⟩ := b
  have : a = b := by
    have e : a.map Sum.inr = b.map (Sum.inr : Str → Key) := e
    induction a generalizing b with
    | nil => cases b with
      | nil => rfl
      | cons y b => cases e
    | cons x a ih => cases b with
      | nil => cases e
      | cons y b =>
        rw [List.map_cons, List.map_cons] at e
        injection e with e1 e2
        rw [Sum.inr.inj e1, ih b e2 e2]
  rw [this], fun {h u a as} r => by
  have r : Reads h u (.tuple (a.items.map .str)) as := r
  cases r with
  | tuple g1 g2 g3 r => exact ⟨_, rfl, _, _, _, g1, g2, g3, items_read r⟩⟩

theorem zip_keys {K α : Type} {R : Value → α → Prop} {key : α → K} : ∀ {us : List Value} {as : List α}, EachIs R us as → ∃ ks : List (Value × K), ks.map (·.1) = us ∧ (∀ p ∈ ks, ∃ a ∈ as, p.2 = key a ∧ R p.1 a) ∧ (∀ a ∈ as, ∃ p ∈ ks, p.2 = key a)
  | _, _, .nil => ⟨[], rfl, fun p h => (by cases h), fun a h => (by cases h)⟩
  | u :: us, a :: as, .cons h t => by
    obtain ⟨ks, e1, e2, e3⟩ := zip_keys (key := key) t
    refine ⟨(u, key a) :: ks, by rw [List.map_cons, e1], fun p hp => ?_, fun b hb => ?_⟩
    · rcases List.mem_cons.mp hp with rfl | hp
      · exact ⟨a, List.mem_cons_self, rfl, h⟩
      · obtain ⟨b, hb, r⟩ := e2 p hp
        exact ⟨b, List.mem_cons_of_mem _ hb, r⟩
    · rcases List.mem_cons.mp hb with rfl | hb
      · exact ⟨_, List.mem_cons_self, rfl⟩
      · obtain ⟨p, hp, e⟩ := e3 b hb
        exact ⟨p, List.mem_cons_of_mem _ hp, e⟩
theorem pick_keys {K α : Type} {R : Value → α → Prop} {key : α → K} {as : List α} : ∀ L : List (Value × K), (∀ p ∈ L, ∃ a ∈ as, p.2 = key a ∧ R p.1 a) → ∃ bs : List α, EachIs R (L.map (·.1)) bs ∧ L.map (·.2) = bs.map key ∧ ∀ b ∈ bs, b ∈ as
  | [], _ => ⟨[], .nil, rfl, fun b h => (by cases h)⟩
  | p :: L, h => by
    obtain ⟨a, ha, e, r⟩ := h p List.mem_cons_self
    obtain ⟨bs, e1, e2, e3⟩ := pick_keys L fun q hq => h q (List.mem_cons_of_mem _ hq)
    refine ⟨a :: bs, .cons r e1, by rw [List.map_cons, List.map_cons, e, e2], fun b hb => ?_⟩
    rcases List.mem_cons.mp hb with rfl | hb
    · exact ha
    · exact e3 b hb
theorem each_unmap {α β γ : Type} {R : α → γ → Prop} {f : β → γ} : ∀ {us : List α} {bs : List β}, EachIs R us (bs.map f) → EachIs (fun u b => R u (f b)) us bs
  | [], [], _ => .nil
  | [], _ :: _, e => nomatch e
  | _ :: _, [], e => nomatch e
  | _ :: _, _ :: _, .cons h t => .cons h (each_unmap t)
/-- the members, as data -/
theorem has_data {P : Program} {w : World} {K α : Type} [DecidableEq α] [DatumOrd α] {T : SKind P w K} (Y : Keyed P w T α) {R : Value → α → Prop} {as : List α} {ks L : List (Value × K)} (h1 : ∀ p ∈ ks, ∃ a ∈ as, p.2 = Y.key a ∧ R p.1 a) (h2 : ∀ a ∈ as, ∃ p ∈ ks, p.2 = Y.key a)
    (g : Has ks ks.length L) (n : (L.map (·.2)).Nodup) : ∃ bs : List α, EachIs R (L.map (·.1)) bs ∧ bs.Perm (dd as) := by
  have sub : ∀ p ∈ L, p ∈ ks := fun p hp => List.mem_of_mem_take (g.sub p hp)
  obtain ⟨bs, e1, e2, e3⟩ := pick_keys (R := R) (key := Y.key) (as := as) L fun p hp => h1 p (sub p hp)
  refine ⟨bs, e1, perm_dd (nodup_of_map (f := Y.key) (by rw [← e2]; exact n)) fun a => ⟨e3 a, fun ha => ?_⟩⟩
  obtain ⟨p, hp, e⟩ := h2 a ha
  have := g.all p (by rw [List.take_length]; exact hp)
  rw [e2, e] at this
  obtain ⟨b, hb, eb⟩ := List.mem_map.mp this
  rw [← Y.inj eb]
  exact hb
open PySem.W in
/-- behind the argument: set, then sorted -/
theorem set_sorted {X : Cx} {T : Tb} (c : XOk X) {K α : Type} [DecidableEq α] [DatumOrd α] {T1 : SKind X.prog X.w K} (Y : Keyed X.prog X.w T1 α) {pins : List (Addr × Obj)} {s : Shared} {σ : L2.St} {H : Hp} {a : Addr} {vs : List V} {as : List α} {G : Addr → Prop} {L : List Addr} {M : Mem} {Q : VK}
    (hd : Datum.depth α ≤ 60) (I : Inv X pins σ H s) (m : MR X.K H G L M) (hs : SqL X.K H a vs ∨ SqT X.K H a vs) (r : RpAll X.K H (Fbd L M G) vs (as.map Datum.toD)) (few : as.length < T1.cap) (few2 : as.length ≤ sizeLine) (so : Sortable (as.map (Datum.toD : α → PyData)))
    (q : Post X.K T H G L M (.ok (.new (.lst ((srt (dd as)).map Datum.toD))) M) Q never) :
    wpAny (model X.prog X.w) X.A (call (.type "set") [.ref a]) (fun u z => wpAny (model X.prog X.w) X.A (call (.builtin "sorted") [u]) (fun u2 z2 => EP X pins σ Q u2 z2) X.xe z) X.xe s := by
  obtain ⟨its, ob, n, rv, g1, g2, g3, hz⟩ := seq_at I hs
  have ea : EachIs (fun u b => ∃ x, RelV x u ∧ Rp X.K H (Fbd L M G) x (Datum.toD b)) its as := by
    exact each_unmap (Cb.each_of rv r)
  have pl : ∀ b : α, okP (Datum.toD b : PyData) = true := fun b => okP_toD hd b
  have rd : ∀ {u : Value} {b : α}, (∃ x, RelV x u ∧ Rp X.K H (Fbd L M G) x (Datum.toD b)) → ∃ bs, Reads s.heap u (Datum.toD b) bs := fun {u b} ⟨x, r1, r2⟩ => Rp.reads I (okP_plain (pl b)) r2 r1
  obtain ⟨ks, k1, k2, k3⟩ := zip_keys (key := Y.key) ea
  have kl : ks.length = as.length := by
    have e1 := congrArg List.length k1
    rw [List.length_map] at e1
    have e2 := ea.length
    omega
  have is : ∀ p ∈ ks, T1.Is s.heap p.1 p.2 := fun p hp => by
    obtain ⟨b, _, e, rr⟩ := k2 p hp
    obtain ⟨bs, rb⟩ := rd rr
    rw [e]
    exact Y.is rb
  have after : ∀ (h' : Heap) (tk : Nat) L2, T1.St h' s.heap.objs.size L2 → Has ks ks.length L2 → (∀ b o, s.heap.get? b = some o → h'.get? b = some o) → wpAny (model X.prog X.w) X.A (call (.builtin "sorted") [.ref s.heap.objs.size]) (fun u2 z2 => EP X pins σ Q u2 z2) X.xe { s with heap := h', toks := tk } := by
    intro h' tk L2 hS g kp
    obtain ⟨bs, e1, p1⟩ := has_data (R := fun u b => ∃ x, RelV x u ∧ Rp X.K H (Fbd L M G) x (Datum.toD b)) Y k2 k3 g (T1.dif hS)
    refine sk_sorted (s := { s with heap := h', toks := tk }) T1 hS (I.ok.hd c.calm) e1 (by have := g.len; omega) (fun h2 v b k r => ?_) (fun b => ?_) ?_ fun s' p cap out kp2 hg ho hp hat eo => ?_
    · obtain ⟨rs, rb⟩ := rd r
      exact ⟨rs, PyProof.Rows.Reads.keeps (fun b o e => k b o (kp b o e)) rb⟩
    · have := okP_depth (pl b)
      have := c.hu
      omega
    · have sub : ∀ d, d ∈ bs.map (Datum.toD : α → PyData) → d ∈ as.map (Datum.toD : α → PyData) := fun d hd => by
        obtain ⟨b, hb, rfl⟩ := List.mem_map.mp hd
        exact List.mem_map.mpr ⟨b, mem_dd.mp (p1.mem_iff.mp hb), rfl⟩
      rcases so with z | z
      · exact .inl fun d hd => z d (sub d hd)
      · exact .inr fun d hd => z d (sub d hd)
    · rw [srt_eq p1] at eo
      obtain ⟨xs, r1, r2⟩ := each_back (each_map (R := fun u d => ∃ x, RelV x u ∧ Rp X.K H (Fbd L M G) x d) (Datum.toD : α → PyData) eo)
      have kp3 : ∀ b o, s.heap.get? b = some o → s'.heap.get? b = some o := fun b o e => kp2 b o (kp b o e)
      have hsz : s.heap.objs.size ≤ p := by
        have : s.heap.objs.size < h'.objs.size := by
          obtain ⟨es, ep, t, ⟨o, e, _⟩, _⟩ := T1.look hS
          exact Heap.lt_size e
        have hp : h'.objs.size ≤ p := hp
        omega
      have fr : H p = none := I.hok.fresh hsz
      have lz : xs.length ≤ sizeLine := by
        have := dd_length as
        rw [r2.length, List.length_map, srt_length]
        omega
      have J : Inv X pins σ (upd H p (.lst xs)) { s with heap := s'.heap, gens := s'.gens, drawn := s'.drawn, toks := s'.toks } :=
        I.call (ch := []) (Un.laid kp3 hsz fr) (I.hok.laid kp3 hsz ⟨lz, out, cap, r1, hat⟩) (by rw [hg]; exact I.bare) (fun _ z => nomatch z)
      have e : s' = { s with heap := s'.heap, gens := s'.gens, drawn := s'.drawn, toks := s'.toks } := by
        cases s'
        cases s
        cases ho
        rfl
      rw [e]
      exact ⟨.ref p, _, J, rfl, q p _ H L fr Nxt.refl m (.lst r2)⟩
  have room : X.A.units + 3 < cLine := by have := c.hu; omega
  rcases g2 with g2 | g2
  · exact sk_set_list T1 (items := its.toArray) ks (I.ok.hd c.calm) ⟨ob, g1, g2, n, g3⟩ (by rw [k1]) is (by rw [kl]; exact few) room after
  · exact sk_set_tuple T1 (items := its.toArray) ks (I.ok.hd c.calm) ⟨ob, g1, g2, n, g3⟩ (by rw [k1]) is (by rw [kl]; exact few) room after
end Cb

set_option Elab.async false
set_option linter.all false
set_option maxRecDepth 100000
/-! Cb, part V: the word sorted(set(e)). -/
namespace Cb
open PySem PySem.Spec PyProof.Rows L2
open PySem.W (Datum DatumOrd Tup EachIs)

def eSrtSet (φ : PFn) : PFn := fun ρ M => (stl (φ ρ M)).bind fun d M1 => match seqP d M1 with
  | some xs => match srtSet xs with
    | some ys => .ok (.new (.lst ys)) M1
    | none => .bad
  | none => .bad
theorem pd_srtSet {X : Cx} {T : Tb} {W : WX} {φ : PFn} {e : Expr} {p p2 pos pos2 : Pos} (c : XOk X) (hg : Gl X "sorted") (hm : X.mg "sorted" = none) (hg2 : Gl X "set") (hm2 : X.mg "set" = none) (he : PD X T W φ e) (hs : starB e = false) :
    PD X T W (eSrtSet φ) (.Call (.Name "sorted" p) [.Call (.Name "set" p2) [e] [] pos2] [] pos) := by
  refine ⟨fun pins s σ H Q I h => ?_⟩
  obtain ⟨ρ, G, L, M, sr, h⟩ := h
  refine Call_ (ld_blt I hg hm PyProof.Rows.boot_sorted ?_)
  refine PyProof.Rows.callWith_builtin1 (PyProof.Rows.args_cons ?_ rfl) rfl rfl
  refine Call_ (ld_blt I hg2 hm2 PyProof.Rows.boot_set ?_)
  have na : starEach [e] X.env = (false, eval e X.env) :: starEach [] X.env := by rw [star_cons hs]
  refine PyProof.Rows.callWith_type1 (PyProof.Rows.args_cons (thn (he.run pins s σ H _ I ⟨ρ, G, L, M, sr, Post.bind h⟩) fun u s1 hh => PyProof.Rows.args_nil ?_) na) na rfl
  obtain ⟨v, H1, I1, r1, d, L1, M1, n1, m1, rd, h1⟩ := hh
  split at h1
  · rename_i xs e1
    split at h1
    · rename_i ys e2
      obtain ⟨a, vs, rfl, hsq, h2⟩ := seqP_ok m1 rd e1
      cases r1
      have h3 := Post.ok_any h1 never
      unfold srtSet at e2
      refine wpAny_mono ?_ (fun u2 z2 q => PyProof.Rows.args_nil q) fun _ _ x => x
      split at e2
      · rename_i ss es
        split at e2
        · rename_i lt
          cases e2
          rw [strsP_of es] at h2
          refine set_sorted c (strKeyed X.prog X.w) (by decide) I1 m1 hsq h2 (by show ss.length < scanBound; unfold scanBound; omega) (by rw [sizeLine_eq]; omega) (.inr fun d hd => ?_) h3
          obtain ⟨b, _, rfl⟩ := List.mem_map.mp hd
          exact ⟨fun z => (nomatch z), fun xs z => nomatch z⟩
        · cases e2
      · split at e2
        · rename_i tt es
          split at e2
          · rename_i lt
            cases e2
            rw [tmsP_of es, map_tm] at h2
            refine set_sorted c (tupKeyed X.prog X.w) (by decide) I1 m1 hsq h2 (by rw [List.length_map]; exact lt.1) (by rw [List.length_map, sizeLine_eq]; omega) (.inl fun d hd => ?_) h3
            rw [← map_tm] at hd
            obtain ⟨b, hb, rfl⟩ := List.mem_map.mp hd
            cases b with
            | nil => exact absurd rfl (lt.2 _ hb)
            | cons x r => exact ⟨_, _, rfl⟩
          · cases e2
        · split at e2
          · rename_i ii es
            split at e2
            · rename_i lt
              cases e2
              rw [intsP_of es] at h2
              refine set_sorted c (intKeyed X.prog X.w) (by decide) I1 m1 hsq h2 (by show ii.length < scanBound; unfold scanBound; omega) (by rw [sizeLine_eq]; omega) (.inr fun d hd => ?_) h3
              obtain ⟨b, _, rfl⟩ := List.mem_map.mp hd
              exact ⟨fun z => (nomatch z), fun xs z => nomatch z⟩
            · cases e2
          · cases e2
    · exact False.elim h1
  · exact False.elim h1
section
variable {Z : Wd} {k : Nat} {N : List Str} {sc : Scope} {X : Cx} {W : WX} {φ : PFn} {e : Expr} {p p2 pos pos2 : Pos}
theorem b_srtSet (g : Gd Z k N sc X W) (m : Z.mg "sorted" = none) (l : glB sc "sorted" = true) (m2 : Z.mg "set" = none) (l2 : glB sc "set" = true) (he : PD X Z.T W φ e) (hs : starB e = false) :
    PD X Z.T W (eSrtSet φ) (.Call (.Name "sorted" p) [.Call (.Name "set" p2) [e] [] pos2] [] pos) := pd_srtSet g.ok (gl_of g l) (no_of g m) (gl_of g l2) (no_of g m2) he hs
end
theorem ok_eSrtSet (φ : PFn) (ρ : Env) (M : Mem) (Q : Ev → Mem → Prop) : Ok (eSrtSet φ ρ M) Q = Ok (φ ρ M) fun x M1 => ∃ xs ys, seqP x.stl M1 = some xs ∧ srtSet xs = some ys ∧ Q (.new (.lst ys)) M1 := by
  simp only [eSrtSet, Ok_bind, Ok_stl]
  congr 1
  funext e M1
  cases e1 : seqP e.stl M1 with
  | none => simp
  | some xs =>
    cases e2 : srtSet xs with
    | none =>
      simp only [e2, Ok_bad]
      refine propext ⟨fun h => h.elim, fun ⟨zs, ys, z1, z2, _⟩ => ?_⟩
      cases z1
      rw [e2] at z2
      cases z2
    | some ys =>
      simp only [e2, Ok_ok]
      refine propext ⟨fun h => ⟨xs, ys, rfl, e2, h⟩, fun ⟨zs, ws, z1, z2, h⟩ => ?_⟩
      cases z1
      rw [e2] at z2
      cases z2
      exact h
theorem srtSet_strs {xs : List Str} (h : xs.length < 4000) : srtSet (xs.map .str) = some ((srt (dd xs)).map .str) := by
  unfold srtSet
  rw [strsP_map]
  simp only [if_pos h]
theorem srtSet_tms {xs : List (List Str)} (h : xs.length < 64) (h2 : ∀ t ∈ xs, t ≠ []) (h3 : xs ≠ []) : srtSet (xs.map tm) = some ((srt (dd (xs.map mkT))).map Datum.toD) := by
  unfold srtSet
  have : strsP (xs.map tm) = none := by
    cases xs with
    | nil => exact absurd rfl h3
    | cons x r => rfl
  rw [this, tmsP_map]
  simp only [if_pos (And.intro h h2)]
end Cb

set_option Elab.async false
set_option linter.all false
set_option maxRecDepth 100000
/-! Cb, part W: {elt for t1 in it1 for t2 in it2}: the two loops. -/
namespace Cs
open PySem PySem.Spec PyProof.Rows L2

section
variable {prog : Program} {w : World} {A : Around} {R : Result → Shared → Prop} {s : Shared} {env : Env} {elt t1 t2 it1 it2 : Expr} {ifs1 ifs2 : List Expr} {scope : Scope} {pos : Pos} {it acc : Value}
abbrev sc2 (elt t1 it1 t2 it2 : Expr) (scope : Scope) (pos : Pos) : Expr := .SetComp elt [⟨t1, it1, [], 0⟩, ⟨t2, it2, [], 0⟩] scope pos
theorem sc2_turn_in (it acc : Value) (env : Env) : compTurn (.SetComp elt [⟨t1, it1, ifs1, 0⟩, ⟨t2, it2, ifs2, 0⟩] scope pos) 1 it acc env = (do
      standAt it2.pos
      match ← pyNext it with
      | none => pure (.done .next)
      | some v =>
        letOwnedTupleGo t2 it v
        assign t2 env v
        let mut ok := true
        for c in ifs2 do
          if ok then ok ← isTrue c env (eval c env)
        if ok then
          (do let v ← eval elt env; standAt elt.pos; let _ ← call (.builtin "set.add") [acc, v])
        again (.compLoop (.SetComp elt [⟨t1, it1, ifs1, 0⟩, ⟨t2, it2, ifs2, 0⟩] scope pos) 1 it acc env)) := by rfl
theorem sc2_turn_out (it acc : Value) (env : Env) : compTurn (.SetComp elt [⟨t1, it1, ifs1, 0⟩, ⟨t2, it2, ifs2, 0⟩] scope pos) 0 it acc env = (do
      standAt it1.pos
      match ← pyNext it with
      | none => pure (.done .next)
      | some v =>
        letOwnedTupleGo t1 it v
        assign t1 env v
        let mut ok := true
        for c in ifs1 do
          if ok then ok ← isTrue c env (eval c env)
        if ok then
          let x ← eval it2 env
          standAt it2.pos
          let x ← foldedSetIterable it2 env x
          let _ ← runOwn (.compStart (.SetComp elt [⟨t1, it1, ifs1, 0⟩, ⟨t2, it2, ifs2, 0⟩] scope pos) 1 (← holding [x] (pyIter x)) acc env) env
        again (.compLoop (.SetComp elt [⟨t1, it1, ifs1, 0⟩, ⟨t2, it2, ifs2, 0⟩] scope pos) 0 it acc env)) := by rfl
/-- what a raise would owe -/
abbrev rE (prog : Program) (w : World) (A : Around) (env : Env) (R : Result → Shared → Prop) : Value → Shared → Prop := notedBy (model prog w) A env fun e z => R (.error e) z
theorem sc2_loop_in (I : Nat → Shared → Prop) (turn : ∀ n s, I n s → wpAny (model prog w) A (pyNext it) (fun r s1 => match r with
      | none => R (.ok .next) s1
      | some v => wpAny (model prog w) A (letOwnedTupleGo t2 it v) (fun _ s2 => wpAny (model prog w) A (assign t2 env v) (fun _ s3 => wpAny (model prog w) A (eval elt env) (fun x s4 => wpAny (model prog w) A (call (.builtin "set.add") [acc, x]) (fun _ s5 => ∃ m, m < n ∧ I m s5) (rE prog w A env R) s4) (rE prog w A env R) s3) (rE prog w A env R) s2) (rE prog w A env R) s1) (rE prog w A env R) s)
    (n : Nat) (h : I n s) : codeAny (model prog w) A (.compLoop (sc2 elt t1 it1 t2 it2 scope pos) 1 it acc env) R s := by
  refine codeAny_loop rfl I (fun n s hI => ?_) n h
  show wpAny _ A ((compTurn (sc2 elt t1 it1 t2 it2 scope pos) 1 it acc env).onRaise (fun x => do noteFrame x env; theTreesLotGoes x)) _ _ s
  refine wpAny_noted ?_
  rw [sc2_turn_in]
  refine wpAny_bind (wpAny_standAt (wpAny_bind (wpAny_mono (turn n s hI) (fun r s1 h1 => ?_) fun _ _ y => y)))
  cases r with
  | none => exact wpAny_pure h1
  | some v =>
    refine wpAny_bind (wpAny_mono h1 (fun _ s2 h2 => wpAny_bind (wpAny_mono h2 (fun _ s3 h3 => ?_) fun _ _ y => y)) fun _ _ y => y)
    refine wpAny_bind (wpAny_of_eq (a := true) (by rfl) ?_)
    exact wpAny_bind (wpAny_bind (wpAny_mono h3 (fun x s4 h4 => wpAny_bind (wpAny_standAt (wpAny_bind (wpAny_mono h4 (fun _ s5 h5 => wpAny_pure (wpAny_pure ⟨rfl, h5⟩)) fun _ _ y => y)))) fun _ _ y => y))
theorem sc2_loop_out (I : Nat → Shared → Prop) (hs : ∀ x, foldedSetIterable it2 env x = pure x) (turn : ∀ n s, I n s → wpAny (model prog w) A (pyNext it) (fun r s1 => match r with
      | none => R (.ok .next) s1
      | some v => wpAny (model prog w) A (letOwnedTupleGo t1 it v) (fun _ s2 => wpAny (model prog w) A (assign t1 env v) (fun _ s3 => wpAny (model prog w) A (eval it2 env) (fun x s4 => wpAny (model prog w) A (pyIter x) (fun itv s5 =>
          ∀ R2 : Result → Shared → Prop, (∀ z, (∃ m, m < n ∧ I m z) → R2 (.ok .next) z) → codeAny (model prog w) A (.compStart (sc2 elt t1 it1 t2 it2 scope pos) 1 itv acc env) R2 s5) (rE prog w A env R) s4) (rE prog w A env R) s3) (rE prog w A env R) s2) (rE prog w A env R) s1) (rE prog w A env R) s)
    (n : Nat) (h : I n s) : codeAny (model prog w) A (.compLoop (sc2 elt t1 it1 t2 it2 scope pos) 0 it acc env) R s := by
  refine codeAny_loop rfl I (fun n s hI => ?_) n h
  show wpAny _ A ((compTurn (sc2 elt t1 it1 t2 it2 scope pos) 0 it acc env).onRaise (fun x => do noteFrame x env; theTreesLotGoes x)) _ _ s
  refine wpAny_noted ?_
  rw [sc2_turn_out]
  refine wpAny_bind (wpAny_standAt (wpAny_bind (wpAny_mono (turn n s hI) (fun r s1 h1 => ?_) fun _ _ y => y)))
  cases r with
  | none => exact wpAny_pure h1
  | some v =>
    refine wpAny_bind (wpAny_mono h1 (fun _ s2 h2 => wpAny_bind (wpAny_mono h2 (fun _ s3 h3 => ?_) fun _ _ y => y)) fun _ _ y => y)
    refine wpAny_bind (wpAny_of_eq (a := true) (by rfl) ?_)
    refine wpAny_bind (wpAny_mono h3 (fun x s4 h4 => ?_) fun _ _ y => y)
    refine wpAny_bind (wpAny_standAt (wpAny_bind (wpAny_of_eq (hs x) ?_)))
    refine wpAny_bind (wpAny_holding (wpAny_mono h4 (fun itv s5 h5 => ?_) fun _ _ y => y))
    refine wpAny_bind (wpAny_runOwn (h5 _ fun z hz => ?_))
    exact wpAny_pure ⟨rfl, hz⟩
theorem sc2_start_in (h0 : codeAny (model prog w) A (.compLoop (sc2 elt t1 it1 t2 it2 scope pos) 1 it acc env) R s)
    (h : wpAny (model prog w) A (pyIter it) (fun it' s' => codeAny (model prog w) A (.compLoop (sc2 elt t1 it1 t2 it2 scope pos) 1 it' acc env) R s') (notedBy (model prog w) A env fun x s' => R (.error x) s') s) :
    codeAny (model prog w) A (.compStart (sc2 elt t1 it1 t2 it2 scope pos) 1 it acc env) R s := by
  refine codeAny_of_tree ?_
  show wpAny _ A ((compStart (sc2 elt t1 it1 t2 it2 scope pos) 1 it acc env).onRaise (fun x => do noteFrame x env; standAt theWindowsPlace)) _ _ s
  refine wpAny_notedAt ?_
  unfold compStart
  show wpAny _ A (ask >>= _) _ _ s
  refine wpAny_bind (wpAny_askSetting (wpAny_ite ?_))
  split
  · first
      | exact wpAny_bind (wpAny_pure (wpAny_pure (And.intro rfl h0)))
      | exact wpAny_pure (And.intro rfl h0)
  · first
      | exact wpAny_bind (wpAny_rule (wpAny_bind (wpAny_standAt (wpAny_bind (wpAny_mono h (fun it' s' h' => wpAny_pure (And.intro rfl h')) fun _ _ x => x)))))
      | (refine wpAny_bind (wpAny_rule ?_); show wpAny _ _ (standAt it2.pos >>= _) _ _ s; exact wpAny_bind (wpAny_standAt (wpAny_bind (wpAny_mono h (fun it' s' h' => wpAny_pure (And.intro rfl h')) fun _ _ x => x))))
end
end Cs

set_option Elab.async false
set_option linter.all false
set_option maxRecDepth 100000
/-! Cb, part X: {elt for t1 in it1 for t2 in it2} by words of the abstract heap; the members keys. -/
namespace Cs
open PySem PySem.Spec PyProof.Rows L2
open Cb (keySets KS_ ks_add)

/-- the set at a has these keys, each once -/
def SetKO (P : Program) (w : World) (a : Addr) (ks : List Key) : HO := .ext fun h => ∃ L, (keySets P w).St h a L ∧ (L.map (·.2)).Perm ks
theorem sko_new {w : World} {P : Program} {H : Hp} {h : Heap} {a : Addr} {ks : List Key} (R : ∃ L, (keySets P w).St h a L ∧ (L.map (·.2)).Perm ks) : ObjOk P w H h a (SetKO P w a ks) := by
  have ⟨L, ⟨es, ep, t, R1⟩, _⟩ := R
  have ⟨o, e, _⟩ := R1.obj
  refine ⟨R, ⟨o, e⟩, fun h1 h2 y k => ?_⟩
  obtain ⟨L', y1, y2⟩ := y
  refine ⟨L', (keySets P w).keepSt y1 k fun p hp => ?_, y2⟩
  obtain ⟨_, _, _, z⟩ := y1
  exact z.mem p hp
section
variable {X : Cx}
theorem sko_get {pins : List (Addr × Obj)} {σ : L2.St} {H : Hp} {s : Shared} {a : Addr} {ks : List Key} (I : Inv X pins σ H s) (ha : H a = some (SetKO X.prog X.w a ks)) : ∃ L, (keySets X.prog X.w).St s.heap a L ∧ (L.map (·.2)).Perm ks := (I.hok a _ ha).1
open Classical in
/-- with this key too -/
noncomputable def wk (k : Key) (ks : List Key) : List Key := if k ∈ ks then ks else k :: ks
theorem sko_add {pins : List (Addr × Obj)} {σ : L2.St} {H : Hp} {s : Shared} {E : Value → Shared → Prop} {D : Addr} {ks : List Key} {k : Key} {v : Value} {Q : Value → Shared → Prop} (I : Inv X pins σ H s) (hD : H D = some (SetKO X.prog X.w D ks)) (few : ks.length + 1 < scanBound) (hk : keyIs k v = true)
    (h : ∀ z, Inv X pins σ (upd H D (SetKO X.prog X.w D (wk k ks))) z → Q .none z) : wpAny (model X.prog X.w) X.A (call (.builtin "set.add") [.ref D, v]) Q E s := by
  obtain ⟨L, ⟨es, ep, t, R⟩, pm⟩ := sko_get I hD
  have ln : L.length = ks.length := by rw [← pm.length_eq, List.length_map]
  obtain ⟨ob, g1, g2, g3⟩ := R.obj
  refine wpAny_call_entry F.slot_set_add ⟨ob, g1, g2.1⟩ F.entry_set_add ?_ (F.args_set_add_2 _ _)
  unfold Builtin.«set.add» Builtin.Frozenset.oneOther
  simp only [List.isEmpty_nil, bind_assoc]
  unfold Builtin.Frozenset.addrOf setAdd
  refine wpAny_bind (wpAny_pure ?_)
  try dsimp only
  refine wpAny_bind (wpAny_pure ?_)
  try dsimp only
  refine wpAny_bind (wpAny_holding (wpAny_bind ((mixKind X.prog X.w).pyHash (k := k) hk ?_)))
  refine ks_add (s := { s with toks := s.toks + 1 }) R hk (by omega) fun b h' L' es' ep' t' sb R' c1 c2 => ?_
  show wpAny _ _ (ret Value.none) _ _ _
  have pm2 : (L'.map (·.2)).Perm (wk k ks) := by
    unfold wk
    by_cases c : k ∈ L.map (·.2)
    · rw [if_pos (pm.mem_iff.mp c), c1 c]
      exact pm
    · rw [if_neg fun z => c (pm.mem_iff.mpr z)]
      have := (c2 c).map (·.2)
      rw [List.map_cons] at this
      exact this.trans (pm.cons k)
  have new : ∃ L, (keySets X.prog X.w).St h' D L ∧ (L.map (·.2)).Perm (wk k ks) := ⟨L', ⟨es', ep', t', R'⟩, pm2⟩
  obtain ⟨o', e', _⟩ := R'.obj
  exact wpAny_pure ⟨_, rfl, h _ (I.write (e := D) (t' := s.toks + 1) (by rw [hD]; trivial) (.inl rfl) (fun b u hb hu => (sb.2 b hb).trans hu) ⟨o', e'⟩ (sko_new new))⟩
/-- the comprehension, by words -/
def tSc2 (P : Program) (w : World) (wi : TI) (g1 : TG) (wi2 : TI) (g2 : TG) (te : TE) (vs : List Nat) : TE := fun σ H Q => wi σ H fun J H1 => ∀ D, H1 D = none → ∃ W : Nat → Nat → Hp → Prop, (∃ m, W 0 m (upd H1 D (SetKO P w D []))) ∧ ∀ i m H, W i m H →
  (J.stop i H ∧ Q (.ref D) H) ∨ (J.go i H ∧ ∃ Nx : Hp → Prop, (∀ H', Nx H' → ∃ m', m' < m ∧ W (i + 1) m' H') ∧ ∀ x H', J.yld i H x H' → g1 x (wipe σ vs) H' fun σ2 H2 => wipe σ2 vs = wipe σ vs ∧ wi2 σ2 H2 fun J2 H3 => ∃ W2 : Nat → Nat → Hp → Prop, (∃ m, W2 0 m H3) ∧ ∀ j m H, W2 j m H →
    (J2.stop j H ∧ Nx H) ∨ (J2.go j H ∧ ∀ y H', J2.yld j H y H' → g2 y (wipe σ vs) H' fun σ3 H4 => wipe σ3 vs = wipe σ vs ∧ te σ3 H4 fun z H5 => ∃ (k : Key) (ks : List Key), z = kV k ∧ H5 D = some (SetKO P w D ks) ∧ ks.length + 1 < scanBound ∧ ∃ m', m' < m ∧ W2 (j + 1) m' (upd H5 D (SetKO P w D (wk k ks)))))
theorem wipe_idem {σ : L2.St} {vs : List Nat} : wipe (wipe σ vs) vs = wipe σ vs := Cb.wipe_agr Cb.Agr.refl
end
end Cs

set_option Elab.async false
set_option linter.all false
set_option maxRecDepth 100000
/-! Cb, part Y: {elt for t1 in it1 for t2 in it2}: it does what the words say. -/
namespace Cs
open PySem PySem.Spec PyProof.Rows L2
open Cb (keySets KS_ ks_add)

section
variable {X : Cx}
theorem fp_at {B : Cx} {pins : List (Addr × Obj)} {H H' : Hp} {b : Addr} (f : FpOk B pins H b) (n : H' b = none) : FpOk B pins H' b := ⟨n, f.2⟩
/-- the inner loop -/
theorem sc2_inner {B : Cx} {pins : List (Addr × Obj)} {σ0 : L2.St} {vs : List Nat} {elt t1 it1 t2 it2 : Expr} {scope : Scope} {pos : Pos} {J2 : It} {fp2 : List Addr} {b2 : Addr} {tn2 : Nat → Heap → Prop} {g2 : TG} {te : TE} {D : Addr} {s : Shared} {H3 : Hp} {R : Result → Shared → Prop} {Nx : Hp → Prop}
    (hc : B.calm = true) (hx : B.xe = fun _ _ => False) (T2 : Turn B.prog B.w B.K t2 J2 fp2 b2 tn2) (pg2 : PG B t2 g2) (pe : PE B elt te) (I : Inv B pins σ0 H3 s) (f2 : ∀ b ∈ fp2, FpOk B pins H3 b) (st : tn2 0 s.heap) (h0 : wipe σ0 vs = σ0) (W2 : Nat → Nat → Hp → Prop) (w0 : ∃ m, W2 0 m H3)
    (turn : ∀ j m H, W2 j m H → (J2.stop j H ∧ Nx H) ∨ (J2.go j H ∧ ∀ y H', J2.yld j H y H' → g2 y σ0 H' fun σ3 H4 => wipe σ3 vs = σ0 ∧ te σ3 H4 fun z H5 => ∃ (k : Key) (ks : List Key), z = kV k ∧ H5 D = some (SetKO B.prog B.w D ks) ∧ ks.length + 1 < scanBound ∧ ∃ m', m' < m ∧ W2 (j + 1) m' (upd H5 D (SetKO B.prog B.w D (wk k ks)))))
    (fin : ∀ z H', Inv B pins σ0 H' z → Nx H' → R (.ok .next) z) : codeAny (model B.prog B.w) B.A (.compStart (Cs.sc2 elt t1 it1 t2 it2 scope pos) 1 (.ref b2) (.ref D) B.env) R s := by
  have loop : codeAny (model B.prog B.w) B.A (.compLoop (Cs.sc2 elt t1 it1 t2 it2 scope pos) 1 (.ref b2) (.ref D) B.env) R s := by
    obtain ⟨m0, w0⟩ := w0
    refine sc2_loop_in (fun n z => ∃ j H', Inv B pins σ0 H' z ∧ tn2 j z.heap ∧ (∀ b ∈ fp2, H' b = none) ∧ W2 j n H') ?_ m0 ⟨0, H3, I, st, fun b hb => (f2 b hb).1, w0⟩
    rintro n s5 ⟨j, H5, I5, st5, n5, w5⟩
    have stat : ∀ {H' : Hp}, (∀ b ∈ fp2, H' b = none) → ∀ b ∈ fp2, FpOk B pins H' b := fun hn b hb => fp_at (f2 b hb) (hn b hb)
    rcases turn j n H5 w5 with ⟨stop, nx⟩ | ⟨go, step⟩
    · refine thnF (T2.done B rfl rfl rfl hc j pins s5 _ H5 (fun _ _ => False) I5 (stat n5) st5 stop) fun r s6 ⟨hr, I6⟩ => ?_
      subst hr
      exact fin s6 H5 I6 nx
    · refine thnF (T2.item B rfl rfl rfl hc j pins s5 _ H5 (fun _ _ => False) I5 (stat n5) st5 go) fun r s6 ⟨u, hr, h6⟩ => ?_
      subst hr
      refine thnF h6 fun _ s7 ⟨y, H7, I7, r7, y7, st7, n7⟩ => ?_
      have I7' := I7.pinned (stat n7) (T2.obj _ _ st7)
      have pgr := pg2.run _ s7 _ H7 y u _ I7' r7 (step y H7 y7)
      rw [hx] at pgr
      refine thnF pgr fun _ s8 ⟨σ8, H8, I8, hw8, q8⟩ => ?_
      have per := pe.run _ s8 σ8 H8 _ I8 q8
      rw [hx] at per
      refine thnF per fun z s9 ⟨zv, H9, I9, r9, k, ks, ez, hD, few, m', lt, w9⟩ => ?_
      subst ez
      have kz : keyIs k z = true := by
        cases k with
        | inl i => obtain ⟨t, rfl⟩ := r9; exact keyIs_int _ _
        | inr x => obtain ⟨t, rfl⟩ := r9; exact keyIs_str _ _
      refine sko_add I9 hD few kz fun s10 I10 => ?_
      have back : ∀ b ∈ fp2, ∀ o, s7.heap.get? b = some o → s10.heap.get? b = some o ∧ upd H9 D (SetKO B.prog B.w D (wk k ks)) b = none := fun b hb o e =>
        let q := I10.pin (b, o) (List.mem_append_right _ (List.mem_append_right _ (mem_pinsAt hb e)))
        ⟨q.1, q.2.1⟩
      have len8 : σ0.length = σ8.length := by rw [← hw8, wipe_length]
      refine ⟨m', lt, j + 1, _, (I10.unpinned (pins := pins)).weak len8 (fun i v e => ?_), T2.keep _ _ _ st7 fun b hb o e => (back b hb o e).1, fun b hb => ?_, w9⟩
      · rw [← hw8] at e
        exact (wipe_some e).1
      · obtain ⟨o, e, _⟩ := T2.obj _ _ st7 b hb
        exact (back b hb o e).2
  exact sc2_start_in loop (T2.self B.A 0 _ _ _ st loop)
theorem sc2_core {pins : List (Addr × Obj)} {s : Shared} {σ : L2.St} {H : Hp} {Q : VK} {elt t1 it1 t2 it2 : Expr} {scope : Scope} {own : List (PySem.Str × Nat)} {pos pos' : Pos} {wi wi2 : TI} {g1 g2 : TG} {te : TE} {Qf : Value → Shared → Prop}
    (hc : X.calm = true) (hN : X.N.Nodup) (I : Inv X pins σ H s) (hi : PI X t1 it1 wi) (ok : BlkOk X.N X.env.scope scope own)
    (hg1 : ∀ (s : Shared) (H : Hp) (C : Addr) (cl : List (PySem.Str × Addr)) (fp : List Addr), PG (X.blk s H scope (compEnvC scope cl C X.env) fp) t1 g1) (hi2 : ∀ (s : Shared) (H : Hp) (C : Addr) (cl : List (PySem.Str × Addr)) (fp : List Addr), PI (X.blk s H scope (compEnvC scope cl C X.env) fp) t2 it2 wi2)
    (hg2 : ∀ (s : Shared) (H : Hp) (C : Addr) (cl : List (PySem.Str × Addr)) (fp : List Addr), PG (X.blk s H scope (compEnvC scope cl C X.env) fp) t2 g2) (he : ∀ (s : Shared) (H : Hp) (C : Addr) (cl : List (PySem.Str × Addr)) (fp : List Addr), PE (X.blk s H scope (compEnvC scope cl C X.env) fp) elt te)
    (hs : ∀ x, foldedSetIterable it1 X.env x = pure x) (hs2 : ∀ (e : PySem.Env) x, foldedSetIterable it2 e x = pure x) (h : tSc2 X.prog X.w wi g1 wi2 g2 te (own.map (·.2)) σ H Q)
    (hRR : ∀ D C s' m H', Inv X pins σ H' s' → Q (.ref D) H' → s'.heap.Ns C m → FpOk X pins H' C → compPost (model X.prog X.w) X.A X.xe none Qf (.ref D) C (.ok .next) s') :
    wpAny (model X.prog X.w) X.A (comprehension (sc2 elt t1 it1 t2 it2 scope pos) scope X.env pos' (newSet (.type "set")) false (eval it1 X.env) none) Qf X.xe s := by
  have hfree : ∀ y ∈ scope.names, y.2 = .free → ∃ c, X.env.cells.lookup y.1 = some c := fun y hy e => by
    rcases ok.free y hy e with k | k
    · exact I.ok.has _ (.inl k)
    · exact I.ok.has _ (.inr k)
  refine wpAny_comprehension_free (use := none) rfl hs (closure_ok hfree) ok.kind (fun y hy e => by rw [ok.uniq y hy, e]) (thn (hi.run pins s σ H _ I h) fun xv s1 hx => thn hx fun itv s2 h2 => ?_)
  obtain ⟨it, fp, tn, J, H2, e, I2, T1, st2, f2, q⟩ := h2
  subst e
  refine PpSet.newSet_ok (newEnv_comp ?_)
  generalize hD : s2.heap.objs.size = D
  have hDn : H2 D = none := I2.hok.fresh (Nat.le_of_eq hD)
  obtain ⟨W, ⟨m0, w0⟩, turn⟩ := q D hDn
  generalize hs3 : ({ s2 with heap := s2.heap.push (Cb.nso X.w) } : Shared) = s3
  have at3 : s3.heap.get? D = some (Cb.nso X.w) := by rw [← hs3, ← hD]; exact Heap.get?_push_size _ rfl
  have I3 : Inv X pins σ (upd H2 D (SetKO X.prog X.w D [])) s3 := by
    rw [← hs3]
    refine I2.laid (t' := s2.toks) (fun b o e => Heap.get?_push_of_some _ e) (Nat.le_of_eq hD) (sko_new ⟨[], (keySets X.prog X.w).fresh ?_, List.Perm.refl _⟩)
    rw [← hD]
    exact Heap.get?_push_size _ rfl
  have h3 : s3.heap = s2.heap.push (Cb.nso X.w) := by rw [← hs3]
  have sz : ∀ b ∈ fp, b < s2.heap.objs.size := fun b hb => by
    obtain ⟨o, e, _⟩ := T1.obj _ _ st2 b hb
    exact Heap.lt_size e
  have f3 : ∀ b ∈ fp, FpOk X pins (upd H2 D (SetKO X.prog X.w D [])) b ∧ b < s3.heap.objs.size := fun b hb => by
    have lt := sz b hb
    refine ⟨fp_at (f2 b hb) ?_, by rw [h3, Heap.size_push]; exact Nat.lt_succ_of_lt lt⟩
    rw [upd_ne (by rw [← hD]; exact Nat.ne_of_lt lt)]
    exact (f2 b hb).1
  have st3 : tn 0 s3.heap := T1.keep _ _ _ st2 fun b _ o e => by rw [h3]; exact Heap.get?_push_of_some _ e
  have I4 := block_start I3 ok hN f3
  have pg1 := hg1 s3 (upd H2 D (SetKO X.prog X.w D [])) s3.heap.objs.size (cellsFrom (s3.heap.objs.size + 1) scope.names (cloFrom X.env.cells scope.names [])) fp
  have pi2 := hi2 s3 (upd H2 D (SetKO X.prog X.w D [])) s3.heap.objs.size (cellsFrom (s3.heap.objs.size + 1) scope.names (cloFrom X.env.cells scope.names [])) fp
  have pg2 := hg2 s3 (upd H2 D (SetKO X.prog X.w D [])) s3.heap.objs.size (cellsFrom (s3.heap.objs.size + 1) scope.names (cloFrom X.env.cells scope.names [])) fp
  have pe := he s3 (upd H2 D (SetKO X.prog X.w D [])) s3.heap.objs.size (cellsFrom (s3.heap.objs.size + 1) scope.names (cloFrom X.env.cells scope.names [])) fp
  show codeAny _ _ (.compStart (sc2 elt t1 it1 t2 it2 scope pos) 0 (.ref it) (.ref D) (compEnvC scope (cellsFrom (s3.heap.objs.size + 1) scope.names (cloFrom X.env.cells scope.names [])) s3.heap.objs.size X.env)) (compPost (model X.prog X.w) X.A X.xe none Qf (.ref D) s3.heap.objs.size) { s3 with heap := pushCells (s3.heap.push { cls := .type "dict", data := .dict #[] }) scope.names }
  have nfp : ∀ b ∈ fp, (upd H2 D (SetKO X.prog X.w D [])) b = none := fun b hb => (f3 b hb).1.1
  generalize hce : compEnvC scope (cellsFrom (s3.heap.objs.size + 1) scope.names (cloFrom X.env.cells scope.names [])) s3.heap.objs.size X.env = ce at I4 pg1 pi2 pg2 pe ⊢
  have cL : ce.locals = s3.heap.objs.size := by subst hce; rfl
  generalize hH3 : upd H2 D (SetKO X.prog X.w D []) = H3 at I3 I4 pg1 pi2 pg2 pe w0 nfp f3
  generalize hs4 : ({ s3 with heap := pushCells (s3.heap.push { cls := .type "dict", data := .dict #[] }) scope.names } : Shared) = s4 at I4 ⊢
  have st4 : tn 0 s4.heap := T1.keep _ _ _ st3 fun b _ o e => by rw [← hs4]; exact pushCells_keeps _ _ _ _ (Heap.get?_push_of_some _ e)
  have stat : ∀ {σ' : L2.St} {H' : Hp} {s' : Shared}, Inv (X.blk s3 H3 scope ce fp) [] σ' H' s' → (∀ b ∈ fp, H' b = none) → ∀ b ∈ fp, FpOk (X.blk s3 H3 scope ce fp) [] H' b := fun {σ' H' s'} I' hn b hb =>
    ⟨hn b hb, (I'.ok.exf b hb).1, I'.ok.exfs b hb, .inl hb, fun x c e => (I'.ok.exf b hb).2 x c e, fun p hp => absurd (show p ∈ ([] : List (Addr × Obj)) ++ [] from hp) (by simp)⟩
  have loop : codeAny (model X.prog X.w) X.A (.compLoop (sc2 elt t1 it1 t2 it2 scope pos) 0 (.ref it) (.ref D) ce) (compPost (model X.prog X.w) X.A X.xe none Qf (.ref D) s3.heap.objs.size) s4 := by
    refine sc2_loop_out (fun n z => ∃ i H', Inv (X.blk s3 H3 scope ce fp) [] (wipe σ (own.map (·.2))) H' z ∧ tn i z.heap ∧ (∀ b ∈ fp, H' b = none) ∧ W i n H') (hs2 ce) ?_ m0 ⟨0, H3, I4, st4, nfp, w0⟩
    rintro n s5 ⟨i, H5, I5, st5, n5, w5⟩
    rcases turn i n H5 w5 with ⟨stop, qq⟩ | ⟨go, Nx, hNx, step⟩
    · refine thnF (T1.done (X.blk s3 H3 scope ce fp) rfl rfl rfl hc i [] s5 _ H5 (fun _ _ => False) I5 (stat I5 n5) st5 stop) fun r s6 ⟨hr, I6⟩ => ?_
      subst hr
      have I7 : Inv X pins σ H5 s6 := I3.call' (ch := fp) I6.os I6.base I6.hok I6.bare fun b hb => ⟨(f3 b hb).1.2.2.2.1, (f3 b hb).1.2.1, (f3 b hb).1.2.2.2.2.1, (f3 b hb).1.2.2.2.2.2⟩
      have nC : H5 s3.heap.objs.size = none := by
        have z : H5 ce.locals = none := I6.free
        rw [cL] at z
        exact z
      obtain ⟨m, hn, _⟩ := I6.loc
      have hn : s6.heap.Ns ce.locals m := hn
      rw [cL] at hn
      exact hRR D s3.heap.objs.size s6 m H5 I7 qq hn (I3.fpOk (Nat.le_refl _) nC)
    · refine thnF (T1.item (X.blk s3 H3 scope ce fp) rfl rfl rfl hc i [] s5 _ H5 (fun _ _ => False) I5 (stat I5 n5) st5 go) fun r s6 ⟨u, hr, h6⟩ => ?_
      subst hr
      refine thnF h6 fun _ s7 ⟨x, H7, I7, r7, y7, st7, n7⟩ => ?_
      have I7' := I7.pinned (stat I7 n7) (T1.obj _ _ st7)
      refine thnF (pg1.run _ s7 _ H7 x u _ I7' r7 (step x H7 y7)) fun _ s8 ⟨σ8, H8, I8, hw8, q8⟩ => ?_
      have len8 : (wipe σ (own.map (·.2))).length = σ8.length := by rw [← hw8, wipe_length]
      refine thnF (pi2.run _ s8 σ8 H8 _ I8 q8) fun xv2 s9 hx2 => thnF hx2 fun itv2 s10 h10 => ?_
      obtain ⟨b2, fp2, tn2, J2, H10, e, I10, T2, st10, f10, W2, w02, turn2⟩ := h10
      subst e
      intro R2 hR2
      have I10' : Inv (X.blk s3 H3 scope ce fp) ([] ++ pinsAt fp s7.heap) (wipe σ (own.map (·.2))) H10 s10 := I10.weak len8 fun j v e => by
        rw [← hw8] at e
        exact (wipe_some e).1
      refine sc2_inner (B := X.blk s3 H3 scope ce fp) (vs := own.map (·.2)) (Nx := Nx) hc rfl T2 pg2 pe I10' f10 st10 wipe_idem W2 w02 turn2 fun z H11 I11 nx => hR2 z ?_
      obtain ⟨m', lt, w'⟩ := hNx H11 nx
      have back : ∀ b ∈ fp, ∀ o, s7.heap.get? b = some o → z.heap.get? b = some o ∧ H11 b = none := fun b hb o e =>
        let y := I11.pin (b, o) (List.mem_append_right _ (List.mem_append_right _ (mem_pinsAt hb e)))
        ⟨y.1, y.2.1⟩
      refine ⟨m', lt, i + 1, H11, I11.unpinned (pins := []), T1.keep _ _ _ st7 fun b hb o e => (back b hb o e).1, fun b hb => ?_, w'⟩
      obtain ⟨o, e, _⟩ := T1.obj _ _ st7 b hb
      exact (back b hb o e).2
  exact PpSet.codeAny_compStart_set loop (T1.self X.A 0 _ _ _ st4 loop)
/-- as a value -/
theorem pe_sc2 {elt t1 it1 t2 it2 : Expr} {scope : Scope} {own : List (PySem.Str × Nat)} {pos : Pos} {wi wi2 : TI} {g1 g2 : TG} {te : TE} (hc : X.calm = true) (hN : X.N.Nodup) (hi : PI X t1 it1 wi) (ok : BlkOk X.N X.env.scope scope own)
    (hg1 : ∀ (s : Shared) (H : Hp) (C : Addr) (cl : List (PySem.Str × Addr)) (fp : List Addr), PG (X.blk s H scope (compEnvC scope cl C X.env) fp) t1 g1) (hi2 : ∀ (s : Shared) (H : Hp) (C : Addr) (cl : List (PySem.Str × Addr)) (fp : List Addr), PI (X.blk s H scope (compEnvC scope cl C X.env) fp) t2 it2 wi2)
    (hg2 : ∀ (s : Shared) (H : Hp) (C : Addr) (cl : List (PySem.Str × Addr)) (fp : List Addr), PG (X.blk s H scope (compEnvC scope cl C X.env) fp) t2 g2) (he : ∀ (s : Shared) (H : Hp) (C : Addr) (cl : List (PySem.Str × Addr)) (fp : List Addr), PE (X.blk s H scope (compEnvC scope cl C X.env) fp) elt te)
    (hs : ∀ x, foldedSetIterable it1 X.env x = pure x) (hs2 : ∀ (e : PySem.Env) x, foldedSetIterable it2 e x = pure x) : PE X (sc2 elt t1 it1 t2 it2 scope pos) (tSc2 X.prog X.w wi g1 wi2 g2 te (own.map (·.2))) := by
  refine ⟨fun pins s σ H Q I h => ?_⟩
  rw [PpSet.eval_SetComp]
  refine sc2_core hc hN I hi ok hg1 hi2 hg2 he hs hs2 h fun D C s' m H' I' q hn f => ⟨m, hn, fun h'' sb => ?_⟩
  obtain ⟨f0, f1, f2, f3, f4, f5⟩ := f
  exact ⟨.ref D, H', I'.turned (t' := s'.toks) (fun b o hb e => (sb.2 b hb).trans e) f0 f1 f3 f4 f5, rfl, q⟩
end
end Cs

set_option Elab.async false
set_option linter.all false
set_option maxRecDepth 100000
/-! Cb, part Z: sorted({p for c in e for p in c}), c teams of texts. -/
namespace Cb
open PySem PySem.Spec PyProof.Rows L2
open Cs (SetKO wk sc2 tSc2 pe_sc2 sko_get)

/-- the teams that a tuple holds -/
def crewsP : D → Option (List (List Str))
  | .p (.tuple ds) => tmsP ds
  | _ => none
def eSrtSc2 (i1 i2 : Nat) (φ : PFn) : PFn := fun ρ M => (stl (φ ρ M)).bind fun d M1 => match crewsP d with
  | some tt => if (i1 < ρ.length ∧ i2 < ρ.length) ∧ tt.flatten.length < 4000 then .ok (.new (.lst ((srt (dd tt.flatten)).map .str))) M1 else .bad
  | none => .bad
/-- the keys of these texts -/
structure KsOk (ks : List Key) (xs : List Str) : Prop where
  nd : ks.Nodup
  mem : ∀ k, k ∈ ks ↔ ∃ x ∈ xs, k = Sum.inr x
  len : ks.length ≤ xs.length
theorem KsOk.nil : KsOk [] [] := ⟨List.nodup_nil, fun k => by simp, Nat.le_refl _⟩
theorem KsOk.step {ks : List Key} {xs : List Str} (h : KsOk ks xs) (x : Str) : KsOk (wk (Sum.inr x) ks) (xs ++ [x]) := by
  unfold wk
  by_cases c : (Sum.inr x : Key) ∈ ks
  · rw [if_pos c]
    refine ⟨h.nd, fun k => (h.mem k).trans ⟨fun ⟨y, hy, e⟩ => ⟨y, List.mem_append_left _ hy, e⟩, fun ⟨y, hy, e⟩ => ?_⟩, by have := h.len; rw [List.length_append]; omega⟩
    rcases List.mem_append.mp hy with z | z
    · exact ⟨y, z, e⟩
    · rw [List.mem_singleton.mp z] at e
      rw [e]
      exact (h.mem _).mp c
  · rw [if_neg c]
    refine ⟨List.nodup_cons.mpr ⟨c, h.nd⟩, fun k => ?_, by have := h.len; rw [List.length_append, List.length_cons, List.length_singleton]; omega⟩
    rw [List.mem_cons, h.mem k]
    constructor
    · rintro (rfl | ⟨y, hy, e⟩)
      · exact ⟨x, List.mem_append_right _ (List.mem_singleton.mpr rfl), rfl⟩
      · exact ⟨y, List.mem_append_left _ hy, e⟩
    · rintro ⟨y, hy, e⟩
      rcases List.mem_append.mp hy with z | z
      · exact .inr ⟨y, z, e⟩
      · rw [List.mem_singleton.mp z] at e
        exact .inl e
theorem upd_two {H : Hp} {D : Addr} {a b : HO} : upd (upd H D a) D b = upd H D b := by
  funext c
  by_cases e : c = D
  · rw [e]; simp [upd]
  · rw [upd_ne e, upd_ne e, upd_ne e]
theorem sqT_fresh {K : PySem.W.Frag} {H : Hp} {a D : Addr} {xs : List V} {ho : HO} (h : SqT K H a xs) (hD : H D = none) : SqT K (upd H D ho) a xs := by
  rcases h with h | h
  · refine .inl ?_
    have ne : a ≠ D := fun e => by
      subst e
      rcases h with h | ⟨o, h⟩ <;> rw [hD] at h <;> cases h
    rcases h with h | ⟨o, h⟩
    · exact .inl (by rw [upd_ne ne]; exact h)
    · exact .inr ⟨o, by rw [upd_ne ne]; exact h⟩
  · exact .inr h
theorem rp_tup {K : PySem.W.Frag} {H : Hp} {Fb : Addr → Prop} {v : V} {ds : List P} (h : Rp K H Fb v (.tuple ds)) : ∃ a vs, v = .ref a ∧ SqT K H a vs ∧ RpAll K H Fb vs ds := by
  cases h with
  | tup h hn r => exact ⟨_, _, rfl, .inl h, r⟩
  | tupK h1 h2 h3 h4 h5 r => exact ⟨_, _, rfl, .inr ⟨_, _, _, h1, h2, h3, h4, h5⟩, r⟩
theorem rp_str {K : PySem.W.Frag} {H : Hp} {Fb : Addr → Prop} {v : V} {x : Str} (h : Rp K H Fb v (.str x)) : v = .str x ∧ x.length ≤ sizeLine := by
  cases h with
  | str _ h => exact ⟨rfl, h⟩
theorem rpa_at {K : PySem.W.Frag} {H : Hp} {Fb : Addr → Prop} : ∀ {vs : List V} {ds : List P} {i : Nat} {d : P}, RpAll K H Fb vs ds → ds[i]? = some d → ∃ v, vs[i]? = some v ∧ Rp K H Fb v d
  | _, _, 0, _, .cons h _, e => ⟨_, rfl, by cases e; exact h⟩
  | _, _, i + 1, _, .cons _ t, e => rpa_at (i := i) t e
theorem set_at {σ : L2.St} {i : Nat} {x : Option V} (h : i < σ.length) : (σ.set i x)[i]? = some x := by rw [List.getElem?_set_self h]
/-- the loops, on teams that are known -/
theorem sc2_words {P0 : Program} {w : World} {K : PySem.W.Frag} {Fb : Addr → Prop} {H1 : Hp} {a : Addr} {vs : List V} {tt : List (List Str)} {σ : L2.St} {sl : List Nat} {i1 i2 : Nat} {Q : VK} (hq : SqT K H1 a vs) (r : RpAll K H1 Fb vs (tt.map tm)) (m1 : i1 ∈ sl) (m2 : i2 ∈ sl) (l1 : i1 < σ.length) (l2 : i2 < σ.length)
    (few : tt.flatten.length < 4000) (D : Addr) (hD : H1 D = none) (fin : ∀ ks, KsOk ks tt.flatten → Q (.ref D) (upd H1 D (SetKO P0 w D ks))) : ∃ W : Nat → Nat → Hp → Prop, (∃ m, W 0 m (upd H1 D (SetKO P0 w D []))) ∧ ∀ i m H, W i m H →
    ((Itt K a).stop i H ∧ Q (.ref D) H) ∨ ((Itt K a).go i H ∧ ∃ Nx : Hp → Prop, (∀ H', Nx H' → ∃ m', m' < m ∧ W (i + 1) m' H') ∧ ∀ x H', (Itt K a).yld i H x H' → gName i1 x (wipe σ sl) H' fun σ2 H2 => wipe σ2 sl = wipe σ sl ∧ iTup K (tVar i1) σ2 H2 fun J2 H3 => ∃ W2 : Nat → Nat → Hp → Prop, (∃ m, W2 0 m H3) ∧ ∀ j m H, W2 j m H →
      (J2.stop j H ∧ Nx H) ∨ (J2.go j H ∧ ∀ y H', J2.yld j H y H' → gName i2 y (wipe σ sl) H' fun σ3 H4 => wipe σ3 sl = wipe σ sl ∧ tVar i2 σ3 H4 fun z H5 => ∃ (k : Key) (ks : List Key), z = kV k ∧ H5 D = some (SetKO P0 w D ks) ∧ ks.length + 1 < scanBound ∧ ∃ m', m' < m ∧ W2 (j + 1) m' (upd H5 D (SetKO P0 w D (wk k ks))))) := by
  have wl : (wipe σ sl).length = σ.length := wipe_length ..
  have vl : vs.length = tt.length := by rw [r.length, List.length_map]
  have pre : ∀ i, (tt.take i).flatten.length ≤ tt.flatten.length := fun i => by
    have : tt.flatten = (tt.take i).flatten ++ (tt.drop i).flatten := by rw [← List.flatten_append, List.take_append_drop]
    rw [this, List.length_append]; omega
  refine ⟨fun i m H => m + i = tt.length ∧ ∃ ks, H = upd H1 D (SetKO P0 w D ks) ∧ KsOk ks (tt.take i).flatten, ⟨tt.length, rfl, [], rfl, KsOk.nil⟩, ?_⟩
  rintro i m H ⟨hm, ks, rfl, hk⟩
  have q0 : ∀ ks', SqT K (upd H1 D (SetKO P0 w D ks')) a vs := fun ks' => sqT_fresh hq hD
  by_cases lt : i < tt.length
  · have et : tt[i]? = some tt[i] := List.getElem?_eq_getElem lt
    generalize tt[i] = xs at et
    obtain ⟨x0, ex, rx⟩ := r.get (i := i) (d := tm xs) (by rw [List.getElem?_map, et]; rfl)
    obtain ⟨b, ws, eb, hb, rw_⟩ := rp_tup rx
    have wsl : ws.length = xs.length := by rw [rw_.length, List.length_map]
    have tk : (tt.take (i + 1)).flatten = (tt.take i).flatten ++ xs := by rw [List.take_add_one, et, List.flatten_append]; simp
    have tl := pre (i + 1)
    rw [tk, List.length_append] at tl
    refine .inr ⟨⟨vs, x0, q0 ks, ex⟩, fun H' => ∃ ks', H' = upd H1 D (SetKO P0 w D ks') ∧ KsOk ks' (tt.take (i + 1)).flatten, fun H' ⟨ks', e, h'⟩ => ⟨m - 1, by omega, by omega, ks', e, h'⟩, fun x H' hy => ?_⟩
    obtain ⟨e, hx⟩ := hy
    subst e
    have e2 := hx vs (q0 ks)
    rw [ex] at e2
    cases e2
    subst eb
    refine ⟨Cb.wipe_agr (Agr.set m1), .ref b, set_at (by rw [wl]; exact l1), b, rfl, ⟨ws, sqT_fresh hb hD⟩, fun j m H => m + j = xs.length ∧ ∃ ks', H = upd H1 D (SetKO P0 w D ks') ∧ KsOk ks' ((tt.take i).flatten ++ xs.take j), ⟨xs.length, rfl, ks, rfl, by simpa using hk⟩, ?_⟩
    rintro j m2' H2 ⟨hm2, ks2, rfl, hk2⟩
    by_cases lt2 : j < xs.length
    · have ey : xs[j]? = some xs[j] := List.getElem?_eq_getElem lt2
      generalize xs[j] = z at ey
      obtain ⟨y0, ey0, ry⟩ := rw_.get (i := j) (d := .str z) (by rw [List.getElem?_map, ey]; rfl)
      obtain ⟨ev, _⟩ := rp_str ry
      subst ev
      refine .inr ⟨⟨ws, _, sqT_fresh hb hD, ey0⟩, fun y H' hy => ?_⟩
      obtain ⟨e, hy⟩ := hy
      subst e
      have e3 := hy ws (sqT_fresh hb hD)
      rw [ey0] at e3
      cases e3
      refine ⟨Cb.wipe_agr (Agr.set m2), .str z, set_at (by rw [wl]; exact l2), Sum.inr z, ks2, rfl, upd_same, ?_, m2' - 1, by omega, by omega, wk (Sum.inr z) ks2, by rw [upd_upd], ?_⟩
      · have := hk2.len
        rw [List.length_append, List.length_take] at this
        unfold scanBound
        omega
      · have := hk2.step z
        rw [List.append_assoc] at this
        rw [List.take_add_one, ey]
        exact this
    · have ej : j = xs.length := by omega
      refine .inl ⟨⟨ws, sqT_fresh hb hD, by omega⟩, ks2, rfl, ?_⟩
      rw [ej, List.take_length] at hk2
      rw [tk]
      exact hk2
  · have ei : i = tt.length := by omega
    rw [ei, List.take_length] at hk
    exact .inl ⟨⟨vs, q0 ks, by omega⟩, fin ks hk⟩
end Cb

set_option Elab.async false
set_option linter.all false
set_option maxRecDepth 100000
/-! Cc, part A: the word sorted({p for c in e for p in c}). -/
namespace Cb
open PySem PySem.Spec PyProof.Rows L2
open PySem.W (Datum DatumOrd Tup EachIs)
open Cs (SetKO wk sc2 tSc2 pe_sc2 sko_get)

def unr : Key → Option Str
  | .inr x => some x
  | .inl _ => none
theorem unr_map : ∀ xs : List Str, (xs.map (Sum.inr : Str → Key)).filterMap unr = xs
  | [] => rfl
  | x :: xs => by rw [List.map_cons, List.filterMap_cons_some (b := x) (by rfl), unr_map xs]
theorem inr_perm {as bs : List Str} (h : (as.map (Sum.inr : Str → Key)).Perm (bs.map (Sum.inr : Str → Key))) : as.Perm bs := by
  have := h.filterMap unr
  rw [unr_map, unr_map] at this
  exact this
theorem str_members : ∀ L : List (Value × Key), (∀ p ∈ L, keyIs p.2 p.1 = true) → (∀ p ∈ L, ∃ x, p.2 = Sum.inr x) → ∃ as : List Str, EachIs (fun v x => ∃ t, v = Value.str x t) (L.map (·.1)) as ∧ L.map (·.2) = as.map Sum.inr
  | [], _, _ => ⟨[], .nil, rfl⟩
  | p :: L, h1, h2 => by
    obtain ⟨as, e1, e2⟩ := str_members L (fun q hq => h1 q (List.mem_cons_of_mem _ hq)) fun q hq => h2 q (List.mem_cons_of_mem _ hq)
    obtain ⟨x, e⟩ := h2 p List.mem_cons_self
    have k := h1 p List.mem_cons_self
    rw [e] at k
    rcases keyIs_shape k with ⟨i, t, z, _⟩ | ⟨y, t, z, ev⟩
    · cases z
    · cases z
      exact ⟨x :: as, .cons ⟨t, ev⟩ e1, by rw [List.map_cons, List.map_cons, e, e2]⟩
theorem flat_short {K : PySem.W.Frag} {H : Hp} {Fb : Addr → Prop} {vs : List V} {tt : List (List Str)} (r : RpAll K H Fb vs (tt.map tm)) : ∀ x ∈ tt.flatten, x.length ≤ sizeLine := by
  intro x hx
  obtain ⟨xs, h1, h2⟩ := List.mem_flatten.mp hx
  obtain ⟨i, hi, e⟩ := List.getElem_of_mem h1
  obtain ⟨v, _, rv⟩ := r.get (i := i) (d := tm xs) (by rw [List.getElem?_map, List.getElem?_eq_getElem hi, e]; rfl)
  obtain ⟨_, ws, _, _, rw_⟩ := rp_tup rv
  obtain ⟨j, hj, e2⟩ := List.getElem_of_mem h2
  obtain ⟨y, _, ry⟩ := rw_.get (i := j) (d := .str x) (by rw [List.getElem?_map, List.getElem?_eq_getElem hj, e2]; rfl)
  exact (rp_str ry).2
theorem pd_srtSc2 {X : Cx} {T : Tb} {W : WX} {φ : PFn} {it1 : Expr} {scope : Scope} {own : List (Str × Nat)} {n1 n2 : Str} {i1 i2 : Nat} {p p1 p2 q1 q2 pos pos2 : Pos} (c : XOk X) (hg : Gl X "sorted") (hm : X.mg "sorted" = none) (he : PD X T W φ it1) (ok : BlkOk X.N X.env.scope scope own)
    (hn1 : ∀ (s : Shared) (H : Hp) (C : Addr) (cl : List (Str × Addr)) (fp : List Addr), PG (X.blk s H scope (compEnvC scope cl C X.env) fp) (.Name n1 p1) (gName i1)) (hv1 : ∀ (s : Shared) (H : Hp) (C : Addr) (cl : List (Str × Addr)) (fp : List Addr), PE (X.blk s H scope (compEnvC scope cl C X.env) fp) (.Name n1 q1) (tVar i1))
    (hn2 : ∀ (s : Shared) (H : Hp) (C : Addr) (cl : List (Str × Addr)) (fp : List Addr), PG (X.blk s H scope (compEnvC scope cl C X.env) fp) (.Name n2 p2) (gName i2)) (hv2 : ∀ (s : Shared) (H : Hp) (C : Addr) (cl : List (Str × Addr)) (fp : List Addr), PE (X.blk s H scope (compEnvC scope cl C X.env) fp) (.Name n2 q2) (tVar i2))
    (m1 : i1 ∈ own.map fun p : Str × Nat => p.2) (m2 : i2 ∈ own.map fun p : Str × Nat => p.2) (hs : ∀ x, foldedSetIterable it1 X.env x = pure x) :
    PD X T W (eSrtSc2 i1 i2 φ) (.Call (.Name "sorted" p) [.SetComp (.Name n2 q2) [⟨.Name n1 p1, it1, [], 0⟩, ⟨.Name n2 p2, .Name n1 q1, [], 0⟩] scope pos2] [] pos) := by
  refine ⟨fun pins s σ H Q I h => ?_⟩
  obtain ⟨ρ, G, L, M, sr, h⟩ := h
  refine Call_ (ld_blt I hg hm PyProof.Rows.boot_sorted ?_)
  refine PyProof.Rows.callWith_builtin1 (PyProof.Rows.args_cons ?_ rfl) rfl rfl
  have pe := pe_sc2 (X := X) (it2 := .Name n1 q1) (elt := .Name n2 q2) (wi2 := iTup X.K (tVar i1)) c.calm c.nd (pi_tup (tg := .Name n1 p1) he) ok hn1 (fun s H C cl fp => pi_tup (tg := .Name n2 p2) (hv1 s H C cl fp)) hn2 hv2 hs (fun _ _ => rfl) (pos := pos2)
  obtain ⟨QQ, hQQ⟩ : ∃ QQ : VK, QQ = fun v H' => ∃ (H1 : Hp) (D : Addr) (ks : List Key) (L1 : List Addr) (M1 : Mem) (tt : List (List Str)), (v = .ref D ∧ H1 D = none ∧ H' = upd H1 D (SetKO X.prog X.w D ks)) ∧ KsOk ks tt.flatten ∧ tt.flatten.length < 4000 ∧ (∀ x ∈ tt.flatten, x.length ≤ sizeLine) ∧ MR X.K H1 G L1 M1 ∧
      Post X.K T H1 G L1 M1 (.ok (.new (.lst ((srt (dd tt.flatten)).map .str))) M1) Q never := ⟨_, rfl⟩
  have run := pe.run pins s σ H QQ I ⟨ρ, G, L, M, sr, Post.mono (Post.bind h) fun v H1 hC => by
    obtain ⟨x, L1, M1, n1', mr1, rd, hp⟩ := hC
    cases ec : crewsP x with
    | none => rw [ec] at hp; exact hp.elim
    | some tt =>
      rw [ec] at hp
      simp only at hp
      split at hp
      · rename_i cond
        obtain ⟨⟨l1, l2⟩, few⟩ := cond
        unfold crewsP at ec
        split at ec
        · rename_i ds
          cases rd with
          | p rp =>
          obtain ⟨a, vs, ev, hq, ra⟩ := rp_tup rp
          rw [tmsP_of ec] at ra
          refine ⟨a, ev, ⟨vs, hq⟩, fun D hD => ?_⟩
          rw [sr.len] at l1 l2
          exact sc2_words hq ra m1 m2 l1 l2 few D hD fun ks hk => by rw [hQQ]; exact ⟨H1, D, ks, L1, M1, tt, ⟨rfl, hD, rfl⟩, hk, few, flat_short ra, mr1, Post.ok_any hp never⟩
        · cases ec
      · exact hp.elim⟩
  subst hQQ
  refine thn run fun u s1 ⟨v, H', I1, r1, H1, D, ks, L1, M1, tt, ⟨ev, hD, eH⟩, hk, few, short, mr, hp⟩ => PyProof.Rows.args_nil ?_
  subst ev
  subst eH
  cases r1
  obtain ⟨L2', hS, pm⟩ := sko_get I1 upd_same
  have mem : ∀ p ∈ L2', keyIs p.2 p.1 = true := by
    obtain ⟨es, ep, t, R⟩ := hS
    exact R.mem
  have isS : ∀ p ∈ L2', ∃ x, p.2 = Sum.inr x := fun p hp => by
    obtain ⟨x, _, e⟩ := (hk.mem p.2).mp (pm.mem_iff.mp (List.mem_map.mpr ⟨p, hp, rfl⟩))
    exact ⟨x, e⟩
  obtain ⟨as, e1, e2⟩ := str_members L2' mem isS
  have pk : ks.Perm ((dd tt.flatten).map Sum.inr) := by
    rw [List.perm_ext_iff_of_nodup hk.nd (List.Pairwise.map _ (fun a b n e => n (Sum.inr.inj e)) (nodup_dd _))]
    intro k
    rw [hk.mem, List.mem_map]
    exact ⟨fun ⟨x, hx, e⟩ => ⟨x, mem_dd.mpr hx, e.symm⟩, fun ⟨x, hx, e⟩ => ⟨x, mem_dd.mp hx, e.symm⟩⟩
  have pas : as.Perm (dd tt.flatten) := by
    rw [e2] at pm
    exact inr_perm (pm.trans pk)
  have al : L2'.length = as.length := by
    have := congrArg List.length e2
    rwa [List.length_map, List.length_map] at this
  have dl := dd_length tt.flatten
  have sl := pas.length_eq
  refine sk_sorted (α := Str) (Cb.keySets X.prog X.w) (Q := fun u2 z2 => EP X pins σ Q u2 z2) (R := fun v x => ∃ t, v = Value.str x t) hS (I1.ok.hd c.calm) e1 (by rw [sizeLine_eq]; omega) (fun h2 v b _ r => ?_) (fun b => ?_) ?_ fun s' pp cap out kp hgens ho hpp hat eo => ?_
  · obtain ⟨t, rfl⟩ := r
    exact ⟨[], .str _ _⟩
  · have := c.hu
    show X.A.units + 2 + (PyData.str b).depth < cLine
    simp [PyData.depth]
    omega
  · refine .inr fun d hd => ?_
    obtain ⟨b, _, rfl⟩ := List.mem_map.mp hd
    exact ⟨fun z => (nomatch z), fun xs z => nomatch z⟩
  · rw [srt_eq pas] at eo
    have hz : ∀ x ∈ srt (dd tt.flatten), x.length ≤ sizeLine := fun x hx => short x (mem_dd.mp (mem_srt.mp hx))
    have eo2 : EachIs (fun u d => ∃ x, RelV x u ∧ Rp X.K (upd H1 D (SetKO X.prog X.w D ks)) (Fbd L1 M1 G) x d) out ((srt (dd tt.flatten)).map .str) := PySem.W.each_map (R := fun u d => ∃ x, RelV x u ∧ Rp X.K (upd H1 D (SetKO X.prog X.w D ks)) (Fbd L1 M1 G) x d) PyData.str (each_mono_mem eo fun v x hx ⟨t, e⟩ => ⟨.str x, ⟨t, e⟩, .str x (hz x hx)⟩)
    obtain ⟨xs, r1, r2⟩ := each_back eo2
    have fr : (upd H1 D (SetKO X.prog X.w D ks)) pp = none := I1.hok.fresh hpp
    have lz : xs.length ≤ sizeLine := by rw [r2.length, List.length_map, srt_length, sizeLine_eq]; omega
    have J : Inv X pins σ (upd (upd H1 D (SetKO X.prog X.w D ks)) pp (.lst xs)) { s1 with heap := s'.heap, gens := s'.gens, drawn := s'.drawn, toks := s'.toks } :=
      I1.call (ch := []) (Un.laid kp hpp fr) (I1.hok.laid kp hpp ⟨lz, out, cap, r1, hat⟩) (by rw [hgens]; exact I1.bare) (fun _ z => nomatch z)
    have e : s' = { s1 with heap := s'.heap, gens := s'.gens, drawn := s'.drawn, toks := s'.toks } := by
      cases s'
      cases s1
      cases ho
      rfl
    rw [e]
    exact ⟨.ref pp, _, J, rfl, (Post.start (Nxt.fresh hD) hp) pp _ _ L1 fr Nxt.refl (mr.fresh hD) (.lst r2)⟩
end Cb

set_option Elab.async false
set_option linter.all false
set_option maxRecDepth 100000
/-! Cc, part B: the words for the printer; a raise that is never reached. -/
namespace Cb
open PySem PySem.Spec PyProof.Rows L2

def sBad : SFn := fun _ _ => .bad
section
variable {Z : Wd} {k : Nat} {N : List Str} {sc scope : Scope} {X : Cx} {W : WX} {φ : PFn} {it1 : Expr} {own : List (Str × Nat)} {n1 n2 : Str} {i1 i2 : Nat} {p p1 p2 q1 q2 pos pos2 : Pos} {U : List Nat}
theorem sd_bad {T : Tb} {st : Stmt} : SD X T W U sBad st := ⟨fun pins s σ H D I h => by
  obtain ⟨ρ, G, L, M, sr, h⟩ := h
  exact False.elim h⟩
theorem pg_nmB (g : Gb Z k N scope sc X) (hi : N[i1]? = some n1) (h : ownB scope n1 = true) : PG X (.Name n1 p1) (gName i1) := by
  unfold ownB locB at h
  have key : ∀ kd, scope.names.lookup n1 = some kd → kd ≠ .free → X.env.scope.names.lookup n1 = some kd := fun kd e hk => by
    rw [g.hs]
    exact lookup_relS_keep hk e
  split at h
  · rename_i e
    have := key _ e (by decide)
    exact pg_name g.ok.nd (by rw [g.hN]; exact hi) (.inl this) (.inr this)
  · rename_i e
    have := key _ e (by decide)
    exact pg_name g.ok.nd (by rw [g.hN]; exact hi) (.inr this) (.inl (by rw [g.fnb, e]; rfl))
  · cases h
theorem b_srtSc2 (g : Gd Z k N sc X W) (m : Z.mg "sorted" = none) (l : glB sc "sorted" = true) (he : PD X Z.T W φ it1) (ok : blkC N sc scope own = true) (h1 : N[i1]? = some n1) (h2 : N[i2]? = some n2) (o1 : ownB scope n1 = true) (o2 : ownB scope n2 = true) (v1 : visB (relS scope sc) n1 = true) (v2 : visB (relS scope sc) n2 = true)
    (d1 : (n1 == ("__debug__" : Str)) = false) (c1 : (n1 == ("__classdict__" : Str)) = false) (d2 : (n2 == ("__debug__" : Str)) = false) (c2 : (n2 == ("__classdict__" : Str)) = false) (m1 : i1 ∈ own.map fun p : Str × Nat => p.2) (m2 : i2 ∈ own.map fun p : Str × Nat => p.2) (hs : ∀ x, foldedSetIterable it1 X.env x = pure x) :
    PD X Z.T W (eSrtSc2 i1 i2 φ) (.Call (.Name "sorted" p) [.SetComp (.Name n2 q2) [⟨.Name n1 p1, it1, [], 0⟩, ⟨.Name n2 p2, .Name n1 q1, [], 0⟩] scope pos2] [] pos) :=
  pd_srtSc2 g.ok (gl_of g l) (no_of g m) he (by rw [g.hN, g.hs]; exact blkOk_by ok) (fun s H C cl fp => pg_nmB (g.blk s H scope C cl fp) h1 o1) (fun s H C cl fp => by
      have gb := g.blk s H scope C cl fp
      exact pe_var (by rw [gb.hN]; exact h1) (by rw [gb.hs]; exact vis_of v1) d1 c1)
    (fun s H C cl fp => pg_nmB (g.blk s H scope C cl fp) h2 o2) (fun s H C cl fp => by
      have gb := g.blk s H scope C cl fp
      exact pe_var (by rw [gb.hN]; exact h2) (by rw [gb.hs]; exact vis_of v2) d2 c2) m1 m2 hs
end
theorem ok_eSrtSc2 (i1 i2 : Nat) (φ : PFn) (ρ : Env) (M : Mem) (Q : Ev → Mem → Prop) : Ok (eSrtSc2 i1 i2 φ ρ M) Q = Ok (φ ρ M) fun x M1 => ∃ tt, crewsP x.stl = some tt ∧ ((i1 < ρ.length ∧ i2 < ρ.length) ∧ tt.flatten.length < 4000) ∧ Q (.new (.lst ((srt (dd tt.flatten)).map .str))) M1 := by
  simp only [eSrtSc2, Ok_bind, Ok_stl]
  congr 1
  funext e M1
  cases e1 : crewsP e.stl with
  | none => simp
  | some tt =>
    simp only [Ok_ite, Ok_ok, Ok_bad]
    refine propext ⟨fun h => ?_, fun ⟨t2, e2, c, h⟩ => ?_⟩
    · split at h
      · exact ⟨tt, rfl, by assumption, h⟩
      · exact h.elim
    · cases e2
      rw [if_pos c]
      exact h
theorem ok_sBad (ρ : Env) (M : Mem) (Q : Out → Mem → Prop) : Ok (sBad ρ M) Q = False := rfl
end Cb

set_option Elab.async false
set_option linter.all false
set_option maxRecDepth 100000
/-! Cc, part C: defs with a parameter that takes what is left over. -/
namespace Cb
open PySem PySem.Spec PyProof.Rows L2

/-- the first n as they come, the others as one tuple -/
def starF (n : Nat) (fs : FS) : FS := fun ds M => match purs (ds.drop n) M with
  | some (xs, M1) => if n ≤ ds.length ∧ xs.length ≤ sizeLine then fs (ds.take n ++ [.p (.tuple xs)]) M1 else .bad
  | none => .bad
def FnGS (Z : Wd) (k : Nat) (f : Addr) (fs : FS) : Prop :=
  ∀ (A : Around) (outer : List PySem.Env) (s : Shared) (H : Hp) (vs : List V) (us : List Value) (ds : List D) (G : Addr → Prop) (L : List Addr) (M : Mem) (Q : VK) (E : XK), RoomG k A → Env0 Z.P Z.w Z.K Z.mg Z.base A outer s H → Vals vs us →
    MR Z.K H G L M → RDs Z.K Z.T H G L M vs ds → Post Z.K Z.T H G L M (fs ds M) Q E → codeAny (model Z.P Z.w) A (.call (.ref f) ⟨us, []⟩) (CR (L2.CX Z.P Z.w) outer Z.P Z.w H s Q E) s
theorem RDs.cut {K : PySem.W.Frag} {T : Tb} {H : Hp} {G : Addr → Prop} {L : List Addr} {M : Mem} : ∀ {vs : List V} {ds : List D} (n : Nat), RDs K T H G L M vs ds → RDs K T H G L M (vs.take n) (ds.take n) ∧ RDs K T H G L M (vs.drop n) (ds.drop n)
  | _, _, 0, h => ⟨.nil, h⟩
  | _, _, n + 1, .nil => ⟨.nil, .nil⟩
  | _, _, n + 1, .cons h t => ⟨.cons h (RDs.cut n t).1, (RDs.cut n t).2⟩
theorem Vals.cut : ∀ {vs : List V} {us : List Value} (n : Nat), Vals vs us → Vals (vs.take n) (us.take n) ∧ Vals (vs.drop n) (us.drop n)
  | _, _, 0, h => ⟨.nil, h⟩
  | _, _, n + 1, .nil => ⟨.nil, .nil⟩
  | _, _, n + 1, .cons h t => ⟨.cons h (Vals.cut n t).1, (Vals.cut n t).2⟩
section
variable {Z : Wd} {k : Nat} {f : Addr} {name qual : Str} {params : Arguments} {body : List Stmt} {scope : Scope} {dV kV doc pm cdv ct oc : Value} {an od : Option Addr} {osl : Array (Option Value)} {N ps : List Str} {pv : Str} {U : List Nat} {φ : SFn}
theorem fngs_of (lk : Z.K.lookup f = some ⟨oc, od, .func (PySem.W.fnOf name qual params body scope dV kV doc pm an cdv ct), osl⟩) (hcd : PySem.W.codeIn Z.K cdv qual = true) (S : FnScope N (ps ++ [pv]) scope)
    (hbind : ∀ us rest : List Value, us.length = ps.length → bindArgs (PySem.W.fnOf name qual params body scope dV kV doc pm an cdv ct) ⟨us ++ rest, []⟩ = (newTuple rest >>= fun t => pure (ps.zip us ++ [(pv, t)])))
    (hbody : ∀ X E, Gs Z k N scope X (WE E) → BD X Z.T (WE E) U φ body) : FnGS Z (k + 1) f (starF ps.length (defF N.length φ)) := by
  intro A outer s H vs us ds G L M Q E hr e0 r m rds hq
  unfold starF at hq
  split at hq
  · rename_i xs M1 e
    split at hq
    · rename_i cond
      obtain ⟨c1, c2⟩ := cond
      obtain ⟨rd1, rd2⟩ := RDs.cut ps.length rds
      obtain ⟨rv1, rv2⟩ := Vals.cut ps.length r
      obtain ⟨nx, m2, ra⟩ := purs_ok m rd2 e
      have l1 : (us.take ps.length).length = ps.length := by
        rw [List.length_take, ← r.length, rds.length]
        omega
      have l2 : (us.drop ps.length).length ≤ sizeLine := by rw [← rv2.length, ra.length]; exact c2
      refine StX.run_bnd lk hcd S hr.room e0 (G := fun zs H2 => ∃ p, H p = none ∧ zs = vs.take ps.length ++ [V.ref p] ∧ H2 = upd H p (.tup (vs.drop ps.length))) (fun A' Ex Q' h => ?_) fun s2 H2 zs ⟨p, hp, ez, eH⟩ hr' => ?_
      · have hn : H s.heap.objs.size = none := e0.hok.fresh (Nat.le_refl _)
        rw [show us = us.take ps.length ++ us.drop ps.length from (List.take_append_drop ..).symm, hbind _ _ l1]
        refine wpAny_bind (wpAny_newTuple (wpAny_pure ?_) l2)
        have new : ObjOk Z.P Z.w (upd H s.heap.objs.size (.tup (vs.drop ps.length))) (s.heap.push ({ cls := .type "tuple", data := .seq (us.drop ps.length).toArray } : Obj)) s.heap.objs.size (.tup (vs.drop ps.length)) :=
          ⟨by rw [rv2.length]; exact l2, us.drop ps.length, rv2, ⟨_, Heap.get?_push_size _ rfl, rfl, _, rfl⟩⟩
        have un := StX.un_laid (fs := frs outer) (s := s) (o := ({ cls := .type "tuple", data := .seq (us.drop ps.length).toArray } : Obj)) (u := .tup (vs.drop ps.length)) hn
        have z := h _ _ (vs.take ps.length ++ [V.ref s.heap.objs.size]) (us.take ps.length ++ [Value.ref s.heap.objs.size]) (StX.env0_laid e0 new) un rfl (fun e s' => StX.cxUp outer s H _ _ E e s' un (fun b o y => Heap.get?_push_of_some _ y) rfl) (rv1.append (.cons rfl .nil))
          (by rw [List.length_append, List.length_append, rv1.length, l1]; rfl) ⟨_, hn, rfl, rfl⟩
        rw [List.zip_append l1.symm] at z
        exact z
      · subst ez eH
        have n2 : Nxt H L M (upd H p (.tup (vs.drop ps.length))) L M1 := nx.trans (Nxt.fresh hp)
        have rd3 : RDs Z.K Z.T (upd H p (.tup (vs.drop ps.length))) G L M1 (vs.take ps.length ++ [V.ref p]) (ds.take ps.length ++ [.p (.tuple xs)]) :=
          RDs.app (RDs.ext n2 rd1) (.cons (.p (.tup (.inl upd_same) (MR.free m2 hp) (RpAll.ext (Nxt.fresh hp).keeps _ _ ra))) .nil)
        refine ⟨_, hbody (cxOf (L2.CX Z.P Z.w) Z.P Z.w Z.K Z.mg Z.base N qual scope f cdv A outer s2 _ E) E ⟨⟨rfl, rfl, rfl, rfl, rfl, rfl, rfl, ⟨rfl, S.nd, ?_, hr.g⟩, ⟨hr', hr.g⟩, takes_of rfl rfl rfl rfl⟩, passes_of rfl, fun _ => rfl, rfl, rfl, rfl, S.kind⟩, startE N.length (ds.take ps.length ++ [D.p (PyData.tuple xs)]), G, L, M1, sr_start (m2.fresh hp) rd3, fin_post (m2.fresh hp) (Post.start n2 hq)⟩
        have := hr'.un
        show (A.deeper _).units + 200 < cLine
        omega
    · exact hq.elim
  · exact hq.elim
end
end Cb

set_option Elab.async false
set_option linter.all false
set_option maxRecDepth 100000
/-! Cc, part D: calls of defs with a star parameter; starred arguments. -/
namespace Cb
open PySem PySem.Spec PyProof.Rows L2

/-- a call whose callee takes the arguments as they come -/
def eCallV (fs : FS) (α : AFn) : PFn := fun ρ M => (α ρ M).bind fun ds M1 => fs ds M1
/-- *e among the arguments -/
def aStar (φ : PFn) (α : AFn) : AFn := fun ρ M => (stl (φ ρ M)).bind fun d M1 => match seqP d M1 with
  | some xs => (α ρ M1).bind fun ds M2 => .ok (xs.map .p ++ ds) M2
  | none => .bad
theorem rds_p {K : PySem.W.Frag} {T : Tb} {H : Hp} {G : Addr → Prop} {L : List Addr} {M : Mem} : ∀ {vs : List V} {xs : List P}, RpAll K H (Fbd L M G) vs xs → RDs K T H G L M vs (xs.map .p)
  | _, _, .nil => .nil
  | _, _, .cons h t => .cons (.p h) (rds_p t)
section
variable {X : Cx} {T : Tb} {W : WX} {e : Expr} {es : List Expr} {φ : PFn} {α : AFn} {p : Pos}
theorem ad_star (he : PD X T W φ e) (hr : AD X T W α es) (hs : starEach (.Starred e p :: es) X.env = (true, eval e X.env) :: starEach es X.env) : AD X T W (aStar φ α) (.Starred e p :: es) := PA.imp (StX.pa_star he hr hs) fun σ H Q h => by
  obtain ⟨ρ, G, L, M, s, h⟩ := h
  refine ⟨ρ, G, L, M, s, (Post.bindA h).mono fun v H1 ⟨x, L1, M1, n1, m1, r1, h1⟩ => ?_⟩
  split at h1
  · rename_i xs e1
    obtain ⟨a, vs, ev, hsq, ra⟩ := seqP_ok m1 r1 e1
    refine ⟨a, vs, ev, hsq.symm, ρ, G, L1, M1, s.ext n1 m1, (PostA.bindA h1).mono fun ys H2 ⟨ds, L2, M2, n2, m2, r2, h2⟩ => ?_⟩
    exact h2 _ H2 L2 Nxt.refl m2 (RDs.app (RDs.ext n2 (rds_p ra)) r2)
  · exact h1.elim
end
section
variable {Z : Wd} {k : Nat} {N : List Str} {sc : Scope} {X : Cx} {W : WX} {f : Addr} {fs : FS} {e : Expr} {es : List Expr} {α : AFn} {pos p : Pos} {x : Str}
theorem callV_run (g : Gd Z k N sc X W) (F : FnGS Z k f fs) {pins : List (Addr × Obj)} {s : Shared} {σ : L2.St} {H : Hp} {Q : VK} {G : Addr → Prop} {L : List Addr} {M : Mem} {vs : List V} {us : List Value} {ds : List D} (I : Inv X pins σ H s) (r : Vals vs us) (m : MR X.K H G L M) (rd : RDs X.K Z.T H G L M vs ds)
    (h : Post X.K Z.T H G L M (fs ds M) Q fun cls d H' => W cls d σ H') : wpAny (model X.prog X.w) X.A (call (.ref f) us) (EP X pins σ Q) X.xe s := by
  have e0 := I.env0
  rw [g.hP, g.hw, g.hK, g.hm, g.hb] at e0
  rw [g.hK] at m rd h
  refine wpAny_call ?_
  rw [g.hP, g.hw]
  refine codeAny_mono (F X.A X.stack s H vs us ds G L M Q _ g.room e0 r m rd h) fun r' s' hq => ?_
  cases r' with
  | error e =>
    refine g.takes e s' (XE.of_call I (fun _ _ _ z => z) ?_)
    rw [g.hP, g.hw]
    exact hq
  | ok fl =>
    cases fl with
    | ret u =>
      refine I.after ?_
      rw [g.hP, g.hw]
      exact hq
    | next => exact False.elim hq
    | brk => exact False.elim hq
    | cont => exact False.elim hq
theorem pd_callV (g : Gd Z k N sc X W) (F : FnGS Z k f fs) (hg : Gl X x) (hm : Z.mg x = some (.ref f)) (hk : PySem.W.keepIn Z.K (.ref f) = true) (hst : (e :: es).any starB = false) (ha : AD X Z.T W α (e :: es)) (hdb : (x == ("__debug__" : Str)) = false) : PD X Z.T W (eCallV fs α) (.Call (.Name x p) (e :: es) [] pos) := by
  refine ⟨fun pins s σ H Q I h => ?_⟩
  obtain ⟨ρ, G, L, M, sr, h⟩ := h
  rw [List.any_cons, Bool.or_eq_false_iff] at hst
  have hk' : PySem.W.keepIn X.K (.ref f) = true := by rw [g.hK]; exact hk
  refine wpAny_Call_Name_kw (ld_glob I hg (by rw [g.hm]; exact hm) ?_ hdb)
  refine PySem.W.callWith_K (h₀ := X.base) I.ok.mod.kin hk' (thn (ha.run pos pins s σ H _ I ⟨ρ, G, L, M, sr, PostA.bind h⟩) fun us s1 ⟨vs, H1, I1, r1, ds, L1, M1, n1, m1, rd1, h1⟩ => ⟨I1.kIn, ?_⟩) (star_cons hst.1) (star_any hst.2)
  exact callV_run g F I1 r1 m1 rd1 h1
/-- one of the further arguments is starred -/
theorem pd_callVS (g : Gd Z k N sc X W) (F : FnGS Z k f fs) (hg : Gl X x) (hm : Z.mg x = some (.ref f)) (hk : PySem.W.keepIn Z.K (.ref f) = true) (hs1 : starB e = false) (ha : AD X Z.T W α (e :: es)) (hst : (backTo pos (starEach es X.env)).any (·.1) = true) (hdb : (x == ("__debug__" : Str)) = false) : PD X Z.T W (eCallV fs α) (.Call (.Name x p) (e :: es) [] pos) := by
  refine ⟨fun pins s σ H Q I h => ?_⟩
  obtain ⟨ρ, G, L, M, sr, h⟩ := h
  have hk' : PySem.W.keepIn X.K (.ref f) = true := by rw [g.hK]; exact hk
  refine wpAny_Call_Name_kw (ld_glob I hg (by rw [g.hm]; exact hm) ?_ hdb)
  refine PySem.W.callWith_S2 (h₀ := X.base) I.ok.mod.kin hk' (thn (ha.run pos pins s σ H _ I ⟨ρ, G, L, M, sr, PostA.bind h⟩) fun us s1 ⟨vs, H1, I1, r1, ds, L1, M1, n1, m1, rd1, h1⟩ => ⟨I1.kIn, ?_⟩) (star_cons hs1) hst
  exact callV_run g F I1 r1 m1 rd1 h1
/-- the def's promise, from where it stands -/
theorem def_okS {st : Stmt} {fd : FuncData} {ps : List Str} {pv : Str} {U : List Nat} {χ : SFn} (F : DefAt Z x st f fd) (S : FnScope N (ps ++ [pv]) (defScope st))
    (hbind : ∀ (kV doc pm : Value) (an : Option Addr) (cdv ct : Value) (us rest : List Value), us.length = ps.length → bindArgs (PySem.W.fnOf x x (defArgs st) (defBody st) (defScope st) .none kV doc pm an cdv ct) ⟨us ++ rest, []⟩ = (newTuple rest >>= fun t => pure (ps.zip us ++ [(pv, t)])))
    (hb : ∀ X E, Gs Z k N (defScope st) X (WE E) → BD X Z.T (WE E) U χ (defBody st)) : FnGS Z (k + 1) f (starF ps.length (defF N.length χ)) := by
  obtain ⟨oc, od, kV, doc, pm, an, cdv, ct, osl, rfl, lk, hcd⟩ := F.fn.ex
  exact fngs_of lk hcd S (hbind kV doc pm an cdv ct) hb
end
end Cb

set_option Elab.async false
set_option linter.all false
set_option maxRecDepth 100000
/-! Cc, part E: small words for the printer. -/
namespace Cb
open PySem PySem.Spec PyProof.Rows L2

theorem FnGS.mono {Z : Wd} {f : Addr} {fs : FS} {j k : Nat} (F : FnGS Z j f fs) (h : j ≤ k) : FnGS Z k f fs := fun A outer s H vs us ds G L M Q E hr => F A outer s H vs us ds G L M Q E ⟨hr.room.mono h, hr.g⟩
theorem ok_eCallV (fs : FS) (α : AFn) (ρ : Env) (M : Mem) (Q : Ev → Mem → Prop) : Ok (eCallV fs α ρ M) Q = Ok (α ρ M) fun ds M1 => Ok (fs ds M1) Q := by
  simp only [eCallV, Ok_bind]
theorem ok_starF (n : Nat) (fs : FS) (ds : List D) (M : Mem) (Q : Ev → Mem → Prop) : Ok (starF n fs ds M) Q = ∃ xs M1, purs (ds.drop n) M = some (xs, M1) ∧ (n ≤ ds.length ∧ xs.length ≤ sizeLine) ∧ Ok (fs (ds.take n ++ [.p (.tuple xs)]) M1) Q := by
  unfold starF
  cases e : purs (ds.drop n) M with
  | none => simp
  | some y =>
    obtain ⟨xs, M1⟩ := y
    simp only [Ok_ite, Ok_bad]
    refine propext ⟨fun h => ?_, fun ⟨zs, M2, e2, c, h⟩ => ?_⟩
    · split at h
      · exact ⟨xs, M1, rfl, by assumption, h⟩
      · exact h.elim
    · cases e2
      rw [if_pos c]
      exact h
theorem ok_aStar (φ : PFn) (α : AFn) (ρ : Env) (M : Mem) (Q : List D → Mem → Prop) : Ok (aStar φ α ρ M) Q = Ok (φ ρ M) fun x M1 => ∃ xs, seqP x.stl M1 = some xs ∧ Ok (α ρ M1) fun ds M2 => Q (xs.map .p ++ ds) M2 := by
  simp only [aStar, Ok_bind, Ok_stl]
  congr 1
  funext e M1
  cases e1 : seqP e.stl M1 with
  | none => simp
  | some xs =>
    simp only [Ok_bind, Ok_ok]
    exact propext ⟨fun h => ⟨xs, rfl, h⟩, fun ⟨ys, e2, h⟩ => by cases e2; exact h⟩
end Cb

set_option Elab.async false
set_option linter.all false
set_option maxRecDepth 100000
/-! Cc, part F: a, b = f(..). -/
namespace Cb
open PySem PySem.Spec PyProof.Rows L2

/-- target = value, the target of any form, the value plain -/
def sAsg (γ : GFn) (φ : PFn) : SFn := fun ρ M => (stl (φ ρ M)).bind fun d M1 => match d with
  | .p x => match γ x ρ with
    | some ρ1 => .ok (.nx ρ1) M1
    | none => .bad
  | _ => .bad
section
variable {X : Cx} {T : Tb} {W : WX} {U : List Nat} {γ : GFn} {φ : PFn} {tg e : Expr} {pos : Pos}
theorem sd_asg (he : PD X T W φ e) (hg : GD X T U γ tg) (hs : swapsWithSole [tg] e pos.line X.env = pure false) (hw : swappedStores [tg] e X.env = pure none) (h1 : (assignEach [tg] X.env).map (·.2) = [assign tg X.env]) : SD X T W U (sAsg γ φ) (.Assign [tg] e pos) :=
  PS.imp' (ps_asg he hg hs hw h1) fun D σ H h => by
    obtain ⟨ρ, G, L, M, sr, h⟩ := h
    refine ⟨ρ, G, L, M, sr, (Post.bindS h).mono fun v H1 ⟨x, L1, M1, n1, m1, r1, hp⟩ => ?_⟩
    split at hp
    · rename_i y
      split at hp
      · rename_i ρ1 e1
        cases r1 with
        | p rp => exact ⟨ρ, ρ1, G, L1, M1, y, sr.ext n1 m1, rp, e1, fun σ' sr' ag => hp σ' H1 L1 Nxt.refl sr' ag⟩
      · exact hp.elim
    · exact hp.elim
end
theorem ok_sAsg (γ : GFn) (φ : PFn) (ρ : Env) (M : Mem) (QS : Out → Mem → Prop) : Ok (sAsg γ φ ρ M) QS = Ok (φ ρ M) fun e M1 => ∃ x ρ1, e.stl = .p x ∧ γ x ρ = some ρ1 ∧ QS (.nx ρ1) M1 := by
  simp only [sAsg, Ok_bind, Ok_stl]
  congr 1
  funext e M1
  cases e1 : e.stl with
  | p x =>
    cases e2 : γ x ρ with
    | none => simp [e2]
    | some ρ1 =>
      simp only [e2, Ok_ok]
      refine propext ⟨fun h => ⟨x, ρ1, rfl, e2, h⟩, fun ⟨y, ρ2, z1, z2, h⟩ => ?_⟩
      cases z1
      rw [e2] at z2
      cases z2
      exact h
  | _ => simp
end Cb

set_option Elab.async false
set_option linter.all false
set_option maxRecDepth 100000
/-! Cc, part G: i or j, of whole numbers. -/
namespace Cb
open PySem PySem.Spec PyProof.Rows L2

def eOrI (φ ψ : PFn) : PFn := fun ρ M => (stl (φ ρ M)).bind fun d M1 => match d with
  | .p (.int i) => if i = 0 then ψ ρ M1 else .ok (.d (.p (.int i))) M1
  | _ => .bad
section
variable {X : Cx} {T : Tb} {W : WX} {φ ψ : PFn} {a b : Expr} {pos : Pos}
theorem pd_orI {rest : List Expr} (ha : PD X T W φ a) (hb : PD X T W ψ (.BoolOp .Or (b :: rest) pos)) : PD X T W (eOrI φ ψ) (.BoolOp .Or (a :: b :: rest) pos) :=
  PE.imp (pe_orT ha hb) fun σ H Q h => by
    obtain ⟨ρ, G, L, M, s, h⟩ := h
    refine ⟨ρ, G, L, M, s, (Post.bind h).mono fun v H1 ⟨x, L1, M1, n1, m1, r1, h1⟩ => ?_⟩
    split at h1
    · rename_i i
      have e := RD.int r1
      subst e
      refine ⟨i != 0, rfl, ?_⟩
      by_cases z : i = 0
      · subst z
        rw [if_pos rfl] at h1
        exact ⟨ρ, G, L1, M1, s.ext n1 m1, h1⟩
      · rw [if_neg z] at h1
        have : (i != 0) = true := by simpa using z
        rw [this]
        exact h1 _ H1 L1 Nxt.refl m1 (.p (.int _))
    · exact h1.elim
end
theorem ok_eOrI (φ ψ : PFn) (ρ : Env) (M : Mem) (Q : Ev → Mem → Prop) : Ok (eOrI φ ψ ρ M) Q = Ok (φ ρ M) fun x M1 => ∃ i : Int, x.stl = .p (.int i) ∧ if i = 0 then Ok (ψ ρ M1) Q else Q (.d (.p (.int i))) M1 := by
  simp only [eOrI, Ok_bind, Ok_stl]
  congr 1
  funext e M1
  cases e1 : e.stl with
  | p x => cases x with
    | int i => simp only [Ok_ite, Ok_ok]; exact propext ⟨fun h => ⟨i, rfl, h⟩, fun ⟨j, z, h⟩ => by cases z; exact h⟩
    | _ => simp
  | _ => simp
end Cb

set_option Elab.async false
set_option linter.all false
set_option maxRecDepth 100000
/-! Cc, part H: sorted of a dict whose keys are texts; sorted of anything. -/
namespace Cb
open PySem PySem.Spec PyProof.Rows L2

theorem RpKV.keys {K : PySem.W.Frag} {H : Hp} {Fb : Addr → Prop} : ∀ {vs : List (Key × V)} {ds : List (P × P)}, RpKV K H Fb vs ds → ds.map (·.1) = vs.map fun kv => keyP kv.1
  | _, _, .nil => rfl
  | _, _, .cons _ t => by rw [List.map_cons, List.map_cons, t.keys]
theorem keys_strs : ∀ {vs : List (Key × V)} {ks : List Str}, (vs.map fun kv => keyP kv.1) = ks.map PyData.str → vs.map (·.1) = ks.map Sum.inr
  | [], [], _ => rfl
  | [], _ :: _, h => by cases h
  | _ :: _, [], h => by cases h
  | (k, v) :: vs, x :: ks, h => by
    rw [List.map_cons, List.map_cons] at h
    injection h with h1 h2
    rw [List.map_cons, List.map_cons, keys_strs h2]
    cases k with
    | inl i => cases h1
    | inr y => cases h1; rfl
theorem ltCps_tLe {x y : Str} (h : ltCps y.cps.toList x.cps.toList = false) : tLe x y = true := by
  unfold tLe
  show (!decide (y.cps.toList < x.cps.toList)) = true
  rw [Bool.not_eq_true', decide_eq_false_iff_not]
  intro hlt
  rw [PyProof.Rows.ltCps_eq, decide_eq_true hlt] at h; cases h
theorem risingS_pw : ∀ {ys : List Str} {p : Str}, PyProof.Rows.risingS p ys = true → (p :: ys).Pairwise fun a b => tLe a b = true
  | [], _, _ => by simp
  | x :: r, p, h => by
    unfold PyProof.Rows.risingS at h
    rw [Bool.and_eq_true, Bool.not_eq_true'] at h
    have h1 := risingS_pw h.2
    have h2 := ltCps_tLe h.1
    rw [List.pairwise_cons]
    refine ⟨fun y hy => ?_, h1⟩
    rcases List.mem_cons.mp hy with rfl | hy
    · exact h2
    · exact tLe_trans _ _ _ h2 ((List.pairwise_cons.mp h1).1 y hy)
theorem sortedS_srt {ys ks : List Str} (hp : ys.Perm ks) (hs : PyProof.Rows.sortedS ys = true) : ys = srt ks := by
  have pw : ys.Pairwise fun a b => tLe a b = true := by
    cases ys with
    | nil => simp
    | cons x r => exact risingS_pw hs
  exact List.Perm.eq_of_pairwise (fun _ _ _ _ => tLe_antisymm) pw (srt_pairwise ks) (hp.trans (srt_perm ks).symm)
def bSrtD : List D → Mem → Option (Ev × Mem) := fun ds M => match ds with
  | [d] => match pv d M with
    | some (.dict kvs) => match strsP (kvs.map (·.1)) with
      | some ks => if ks.length < 64 ∧ ∀ x ∈ ks, x.length ≤ 1000 then some (.new (.lst ((srt ks).map .str)), M) else none
      | none => none
    | _ => none
  | _ => none
theorem rp_strs {K : PySem.W.Frag} {H : Hp} {Fb : Addr → Prop} : ∀ {ks : List Str}, (∀ x ∈ ks, x.length ≤ 1000) → RpAll K H Fb (ks.map V.str) (ks.map .str)
  | [], _ => .nil
  | x :: ks, h => .cons (.str x (by have := h x List.mem_cons_self; rw [sizeLine_eq]; omega)) (rp_strs fun y hy => h y (List.mem_cons_of_mem _ hy))
theorem cg_srtD {X : Cx} {T : Tb} (c : XOk X) : CallG X T (.builtin "sorted") bSrtD := by
  intro pins s σ H xs us Q I r h
  obtain ⟨ds, ev, M', G, L, M, m, rds, e, q⟩ := h
  unfold bSrtD at e
  split at e
  · split at e
    · rename_i d kvs e1
      split at e
      · rename_i ks e2
        split at e
        · rename_i hk
          cases e
          cases rds with
          | cons r1 r2 =>
          cases r2
          obtain ⟨a, vs, rfl, h1, h2⟩ := pv_dict m r1 e1
          have hks : vs.map (·.1) = ks.map Sum.inr := keys_strs (h2.keys.symm.trans (strsP_of e2))
          refine call_sortedD c.calm pins s σ H _ us Q I r ⟨a, vs, ks, rfl, h1, hks, hk.1, fun ys p hp hs hn => ?_⟩
          have e3 := sortedS_srt hp hs
          subst e3
          exact q p _ H L hn Nxt.refl m (.lst (rp_strs fun x hx => hk.2 x (mem_srt.mp hx)))
        · cases e
      · cases e
    · cases e
  · cases e
/-- sorted of a list, a tuple or a dict -/
def bSrtU : List D → Mem → Option (Ev × Mem) := fun ds M => match bSrt ds M with
  | some r => some r
  | none => bSrtD ds M
theorem cg_srtU {X : Cx} {T : Tb} (c : XOk X) : CallG X T (.builtin "sorted") bSrtU := by
  intro pins s σ H xs us Q I r h
  obtain ⟨ds, ev, M', G, L, M, m, rds, e, q⟩ := h
  unfold bSrtU at e
  split at e
  · rename_i z e1
    cases e
    exact cg_srt c pins s σ H xs us Q I r ⟨ds, ev, M', G, L, M, m, rds, e1, q⟩
  · exact cg_srtD c pins s σ H xs us Q I r ⟨ds, ev, M', G, L, M, m, rds, e, q⟩
theorem srtU_of {ds : List D} {M : Mem} {r : Ev × Mem} (h : bSrt ds M = some r) : bSrtU ds M = some r := by unfold bSrtU; rw [h]
theorem srtU_dct {d : D} {M : Mem} {kvs : List (P × P)} {ks : List Str} (h : pv d M = some (.dict kvs)) (hk : kvs.map (·.1) = ks.map .str) (h1 : ks.length < 64) (h2 : ∀ x ∈ ks, x.length ≤ 1000) : bSrtU [d] M = some (.new (.lst ((srt ks).map .str)), M) := by
  have e : bSrt [d] M = none := by simp only [bSrt, seqP, h]
  unfold bSrtU
  rw [e]
  simp only [bSrtD, h, hk, strsP_map, if_pos (And.intro h1 h2)]
section
variable {Z : Wd} {k : Nat} {N : List Str} {sc : Scope} {X : Cx} {W : WX} {α : AFn} {e : Expr} {es : List Expr} {p pos : Pos}
theorem b_sortedU (g : Gd Z k N sc X W) (m : Z.mg "sorted" = none) (l : glB sc "sorted" = true) (ha : AD X Z.T W α (e :: es)) (hs : (e :: es).any starB = false) : PD X Z.T W (eCallB bSrtU α) (.Call (.Name "sorted" p) (e :: es) [] pos) := pd_callB (cg_srtU g.ok) (gl_of g l) (no_of g m) PyProof.Rows.boot_sorted ha hs (by decide) rfl
end
end Cb

set_option Elab.async false
set_option linter.all false
set_option maxRecDepth 100000
/-! Cm, part D: loops, comprehensions, displays. -/
namespace Cb
open PySem PySem.Spec PyProof.Rows L2
open PySem.W (Datum DatumOrd Tup)

/-! ### {k: v, ..} -/
theorem ok_eDisp (l : List (PFn × PFn)) (ρ : Env) (M : Mem) (Q : Ev → Mem → Prop) : Ok (eDisp l ρ M) Q = Ok (pairL l ρ M) fun ps M1 => Q (.new (.dct (mergeP ps))) M1 := by
  simp only [eDisp, Ok_bind, Ok_ok]
theorem ok_eDNew (ρ : Env) (M : Mem) (Q : Ev → Mem → Prop) : Ok (eDNew ρ M) Q = Q (.new (.dct [])) M := rfl
theorem pair_nil (ρ : Env) (M : Mem) (Q : List (P × P) → Mem → Prop) : Ok (pairL [] ρ M) Q = Q [] M := rfl
theorem pair_cons (k v : PFn) (r : List (PFn × PFn)) (ρ : Env) (M : Mem) (Q : List (P × P) → Mem → Prop) :
    Ok (pairL ((k, v) :: r) ρ M) Q = Ok (k ρ M) fun a M1 => Ok (v ρ M1) fun b M2 => ∃ kp, a.stl = .p kp ∧ (keyOf kp).isSome = true ∧ ∃ y M3, pur b.stl M2 = some (y, M3) ∧ Ok (pairL r ρ M3) fun ps M4 => Q ((kp, y) :: ps) M4 := by
  rw [pairL, Ok_bind, Ok_ne, Ok_stl]
  congr 1
  funext a M1
  rw [Ok_bind, Ok_ne, Ok_stl]
  congr 1
  funext b M2
  cases e : a.stl with
  | p kp =>
    cases e2 : keyOf kp with
    | none => simp [e2]
    | some q =>
      cases e3 : pur b.stl M2 with
      | none => simp only [e2, e3]; simp
      | some z =>
        obtain ⟨y, M3⟩ := z
        refine propext ⟨fun h => ⟨kp, rfl, by rw [e2]; rfl, y, M3, rfl, ?_⟩, ?_⟩
        · simp only [e2, Ok_bind, Ok_ok] at h; exact h
        · rintro ⟨kp', z1, _, y', M3', z2, h⟩
          cases z1
          cases z2
          simp only [e2, Ok_bind, Ok_ok]; exact h
  | _ => simp

/-! ### for -/
/-- a turn's end: on with the next, or out of the loop -/
def Turn (I : Env → Mem → Prop) (QS : Out → Mem → Prop) : Out → Mem → Prop := fun o M => match o with
  | .nx ρ => I ρ M
  | .ct ρ => I ρ M
  | .bk ρ => QS (.nx ρ) M
  | .rt e => QS (.rt e) M
theorem Turn_nx (I : Env → Mem → Prop) (QS : Out → Mem → Prop) (ρ : Env) (M : Mem) : Turn I QS (.nx ρ) M = I ρ M := rfl
theorem Turn_ct (I : Env → Mem → Prop) (QS : Out → Mem → Prop) (ρ : Env) (M : Mem) : Turn I QS (.ct ρ) M = I ρ M := rfl
theorem Turn_bk (I : Env → Mem → Prop) (QS : Out → Mem → Prop) (ρ : Env) (M : Mem) : Turn I QS (.bk ρ) M = QS (.nx ρ) M := rfl
theorem Turn_rt (I : Env → Mem → Prop) (QS : Out → Mem → Prop) (e : Ev) (M : Mem) : Turn I QS (.rt e) M = QS (.rt e) M := rfl
/-- the loop with n turns, by a word of the turn's number; item: what the i-th turn gets, as things stand -/
theorem for_ok {step : Stp} {γ : GFn} {body els : SFn} {ρ : Env} {M : Mem} {QS : Out → Mem → Prop} (n : Nat) (I : Nat → Env → Mem → Prop) (hn : n ≤ sizeLine) (h0 : I 0 ρ M)
    (hs : ∀ i ρ M, i < n → I i ρ M → ∃ x ρ1, step i M = some (some x) ∧ γ x ρ = some ρ1 ∧ Ok (body ρ1 M) (Turn (I (i + 1)) QS)) (he : ∀ ρ M, I n ρ M → step n M = some none ∧ Ok (els ρ M) QS) : Ok (forL step γ body els FUEL 0 ρ M) QS := by
  have key : ∀ (f i : Nat) (ρ : Env) (M : Mem), i ≤ n → n < f + i → I i ρ M → Ok (forL step γ body els f i ρ M) QS := by
    intro f
    induction f with
    | zero => intro i ρ M h1 h2; omega
    | succ f ih =>
      intro i ρ M h1 h2 hI
      unfold forL
      by_cases hi : i < n
      · obtain ⟨x, ρ1, e1, e2, hb⟩ := hs i ρ M hi hI
        rw [e1]
        simp only
        rw [e2]
        simp only
        rw [Ok_bind]
        refine hb.mono fun o M1 ht => ?_
        cases o with
        | nx ρ2 => exact ih (i + 1) ρ2 M1 hi (by omega) ht
        | ct ρ2 => exact ih (i + 1) ρ2 M1 hi (by omega) ht
        | bk ρ2 => exact ht
        | rt e => exact ht
      · have : i = n := by omega
        subst this
        obtain ⟨e1, e2⟩ := he ρ M hI
        rw [e1]
        exact e2
  exact key FUEL 0 ρ M (Nat.zero_le _) (by rw [sizeLine_eq] at hn; rw [FUEL_eq]; omega) h0
theorem stL_at {xs : List P} {i : Nat} {M : Mem} (h : i < xs.length) : stL xs i M = some (some xs[i]) := by
  unfold stL; rw [List.getElem?_eq_getElem h]
theorem stL_end {xs : List P} {M : Mem} : stL xs xs.length M = some none := by
  unfold stL; rw [List.getElem?_eq_none (Nat.le_refl _)]
theorem stO_at {n : Nat} {xs : List P} {i : Nat} {M : Mem} (hM : M[n]? = some (.lst xs)) (h : i < xs.length) : stO n i M = some (some xs[i]) := by
  unfold stO; rw [hM]; simp only; rw [List.getElem?_eq_getElem h]
theorem stO_end {n : Nat} {xs : List P} {M : Mem} (hM : M[n]? = some (.lst xs)) : stO n xs.length M = some none := by
  unfold stO; rw [hM]; simp only; rw [List.getElem?_eq_none (Nat.le_refl _)]
theorem stR_at {lo : Int} {n i : Nat} {M : Mem} (h : i < n) : stR lo n i M = some (some (.int (lo + i))) := by
  unfold stR; rw [if_pos h]
theorem stR_end {lo : Int} {n : Nat} {M : Mem} : stR lo n n M = some none := by
  unfold stR; rw [if_neg (Nat.lt_irrefl _)]
/-- a for whose target is one name, over plain items -/
theorem for_list {xs : List P} {k : Nat} {body els : SFn} {ρ : Env} {M : Mem} {QS : Out → Mem → Prop} (I : Nat → Env → Mem → Prop) (hn : xs.length ≤ sizeLine) (h0 : I 0 ρ M)
    (hs : ∀ i x ρ M, xs[i]? = some x → I i ρ M → Ok (body (ρ.set k (some (.p x))) M) (Turn (I (i + 1)) QS)) (he : ∀ ρ M, I xs.length ρ M → Ok (els ρ M) QS) : Ok (forL (stL xs) (gNm k) body els FUEL 0 ρ M) QS :=
  for_ok xs.length I hn h0 (fun i ρ M hi hI => ⟨xs[i], _, stL_at hi, rfl, hs i _ ρ M (List.getElem?_eq_getElem hi) hI⟩) fun ρ M hI => ⟨stL_end, he ρ M hI⟩
theorem for_range {n : Nat} {lo : Int} {k : Nat} {body els : SFn} {ρ : Env} {M : Mem} {QS : Out → Mem → Prop} (I : Nat → Env → Mem → Prop) (hn : n ≤ sizeLine) (h0 : I 0 ρ M)
    (hs : ∀ i ρ M, i < n → I i ρ M → Ok (body (ρ.set k (some (.p (.int (lo + i))))) M) (Turn (I (i + 1)) QS)) (he : ∀ ρ M, I n ρ M → Ok (els ρ M) QS) : Ok (forL (stR lo n) (gNm k) body els FUEL 0 ρ M) QS :=
  for_ok n I hn h0 (fun i ρ M hi hI => ⟨_, _, stR_at hi, rfl, hs i ρ M hi hI⟩) fun ρ M hI => ⟨stR_end, he ρ M hI⟩
theorem for_obj {n : Nat} {xs : List P} {k : Nat} {body els : SFn} {ρ : Env} {M : Mem} {QS : Out → Mem → Prop} (I : Nat → Env → Mem → Prop) (hn : xs.length ≤ sizeLine) (h0 : I 0 ρ M) (hM : ∀ i ρ M, I i ρ M → M[n]? = some (.lst xs))
    (hs : ∀ i x ρ M, xs[i]? = some x → I i ρ M → Ok (body (ρ.set k (some (.p x))) M) (Turn (I (i + 1)) QS)) (he : ∀ ρ M, I xs.length ρ M → Ok (els ρ M) QS) : Ok (forL (stO n) (gNm k) body els FUEL 0 ρ M) QS :=
  for_ok xs.length I hn h0 (fun i ρ M hi hI => ⟨xs[i], _, stO_at (hM i ρ M hI) hi, rfl, hs i _ ρ M (List.getElem?_eq_getElem hi) hI⟩) fun ρ M hI => ⟨stO_end (hM _ ρ M hI), he ρ M hI⟩
/-- while: by a word and a measure -/
theorem wh_ok {t : TFn} {body els : SFn} {ρ : Env} {M : Mem} {QS : Out → Mem → Prop} (I : Nat → Env → Mem → Prop) (m : Nat) (hm : m ≤ sizeLine) (h0 : I m ρ M)
    (hs : ∀ m ρ M, I m ρ M → Ok (t ρ M) fun b M1 => if b = true then Ok (body ρ M1) (Turn (fun ρ' M' => ∃ m', m' < m ∧ I m' ρ' M') QS) else Ok (els ρ M1) QS) : Ok (sWh t body els ρ M) QS := by
  have key : ∀ (f m : Nat) (ρ : Env) (M : Mem), m < f → I m ρ M → Ok (whL t body els f ρ M) QS := by
    intro f
    induction f with
    | zero => intro m ρ M h; omega
    | succ f ih =>
      intro m ρ M hf hI
      unfold whL
      rw [Ok_bind]
      refine (hs m ρ M hI).mono fun b M1 h => ?_
      cases b with
      | false => exact h
      | true =>
        simp only [if_true] at h ⊢
        rw [Ok_bind]
        refine h.mono fun o M2 ht => ?_
        cases o with
        | nx ρ2 => obtain ⟨m', h1, h2⟩ := ht; exact ih m' ρ2 M2 (by omega) h2
        | ct ρ2 => obtain ⟨m', h1, h2⟩ := ht; exact ih m' ρ2 M2 (by omega) h2
        | bk ρ2 => exact ht
        | rt e => exact ht
  exact key FUEL m ρ M (by rw [sizeLine_eq] at hm; rw [FUEL_eq]; omega) h0

/-! ### comprehensions -/
/-- by a word of the turn's number and what is made so far -/
theorem lc_ok {step : Stp} {γ : GFn} {t : TFn} {φ : PFn} {vs : List Nat} {ρ : Env} {M : Mem} {Q : Ev → Mem → Prop} (n : Nat) (I : Nat → List P → Mem → Prop) (hn : n ≤ sizeLine) (h0 : I 0 [] M)
    (hs : ∀ i acc M, i < n → I i acc M → acc.length ≤ i → ∃ x ρ1, step i M = some (some x) ∧ γ x (wipeE ρ vs) = some ρ1 ∧ Ok (t ρ1 M) fun b M1 => if b = true then Ok (φ ρ1 M1) fun e M2 => ∃ y M3, pur e.stl M2 = some (y, M3) ∧ I (i + 1) (acc ++ [y]) M3 else I (i + 1) acc M1)
    (he : ∀ acc M, I n acc M → acc.length ≤ n → step n M = some none ∧ Q (.new (.lst acc)) M) : Ok (lcL step γ t φ vs FUEL 0 [] ρ M) Q := by
  have key : ∀ (f i : Nat) (acc : List P) (M : Mem), i ≤ n → n < f + i → acc.length ≤ i → I i acc M → Ok (lcL step γ t φ vs f i acc ρ M) Q := by
    intro f
    induction f with
    | zero => intro i acc M h1 h2; omega
    | succ f ih =>
      intro i acc M h1 h2 h3 hI
      unfold lcL
      by_cases hi : i < n
      · obtain ⟨x, ρ1, e1, e2, hb⟩ := hs i acc M hi hI h3
        rw [e1]
        simp only
        rw [e2]
        simp only
        rw [Ok_bind, Ok_ne]
        refine hb.mono fun b M1 h => ?_
        cases b with
        | false => exact ih (i + 1) acc M1 hi (by omega) (by omega) h
        | true =>
          simp only [if_true] at h ⊢
          rw [Ok_bind, Ok_ne, Ok_stl]
          refine h.mono fun e M2 ⟨y, M3, ey, h4⟩ => ?_
          rw [ey]
          simp only
          rw [if_pos (by omega)]
          exact ih (i + 1) (acc ++ [y]) M3 hi (by omega) (by rw [List.length_append]; simpa using h3) h4
      · have : i = n := by omega
        subst this
        obtain ⟨e1, e2⟩ := he acc M hI h3
        rw [e1]
        exact e2
  exact key FUEL 0 [] M (Nat.zero_le _) (by rw [sizeLine_eq] at hn; rw [FUEL_eq]; omega) (Nat.le_refl _) h0
/-- pure: xs filtered, then mapped -/
theorem lc_pure {α : Type} {step : Stp} {γ : GFn} {t : TFn} {φ : PFn} {vs : List Nat} {ρ : Env} {M : Mem} {Q : Ev → Mem → Prop} (xs : List α) (e : α → P) (p : α → Bool) (f : α → P) (hn : xs.length ≤ sizeLine) (hst : ∀ i : Nat, step i M = some ((xs[i]?).map e))
    (hs : ∀ a, a ∈ xs → ∃ ρ1, γ (e a) (wipeE ρ vs) = some ρ1 ∧ Ok (t ρ1 M) fun b M1 => M1 = M ∧ b = p a ∧ (p a = true → Ok (φ ρ1 M) fun v M2 => M2 = M ∧ v.stl = .p (f a)))
    (hq : Q (.new (.lst ((xs.filter p).map f))) M) : Ok (lcL step γ t φ vs FUEL 0 [] ρ M) Q := by
  refine lc_ok xs.length (fun i acc M' => M' = M ∧ acc = ((xs.take i).filter p).map f) hn ⟨rfl, rfl⟩ ?_ ?_
  · rintro i acc M' hi ⟨rfl, rfl⟩ _
    obtain ⟨ρ1, e1, h1⟩ := hs xs[i] (List.getElem_mem hi)
    refine ⟨e xs[i], ρ1, by rw [hst, List.getElem?_eq_getElem hi]; rfl, e1, h1.mono ?_⟩
    rintro b M1 ⟨rfl, rfl, h2⟩
    have tk : xs.take (i + 1) = xs.take i ++ [xs[i]] := by rw [List.take_append_getElem hi]
    cases hp : p xs[i] with
    | false =>
      refine ⟨rfl, ?_⟩
      rw [tk, List.filter_append, List.filter_cons_of_neg (by rw [hp]; exact Bool.false_ne_true)]
      simp
    | true =>
      refine (h2 hp).mono ?_
      rintro v M2 ⟨rfl, ev⟩
      refine ⟨f xs[i], M2, by rw [ev]; rfl, rfl, ?_⟩
      rw [tk, List.filter_append, List.filter_cons_of_pos hp, List.map_append]
      rfl
  · rintro acc M' ⟨rfl, rfl⟩ _
    rw [List.take_length]
    exact ⟨by rw [hst, List.getElem?_eq_none (Nat.le_refl _)]; rfl, hq⟩
theorem st_map {α : Type} (xs : List α) (e : α → P) (M : Mem) (i : Nat) : stL (xs.map e) i M = some ((xs[i]?).map e) := by
  unfold stL; rw [List.getElem?_map]
theorem st_obj {α : Type} {xs : List α} {e : α → P} {M : Mem} {n : Nat} (h : M[n]? = some (.lst (xs.map e))) (i : Nat) : stO n i M = some ((xs[i]?).map e) := by
  unfold stO; rw [h]; simp only; rw [List.getElem?_map]
theorem st_range (n : Nat) (M : Mem) (i : Nat) : stR 0 n i M = some (((List.range n)[i]?).map fun k => .int k) := by
  unfold stR
  by_cases h : i < n
  · rw [if_pos h, List.getElem?_range h]; simp
  · rw [if_neg h, List.getElem?_eq_none (by simpa using h)]; rfl
/-- over plain items, the target one name -/
theorem lc_list {α : Type} {t : TFn} {φ : PFn} {k : Nat} {ρ : Env} {M : Mem} {Q : Ev → Mem → Prop} (xs : List α) (e : α → P) (p : α → Bool) (f : α → P) (hn : xs.length ≤ sizeLine)
    (hs : ∀ a, a ∈ xs → Ok (t ((ρ.set k none).set k (some (.p (e a)))) M) fun b M1 => M1 = M ∧ b = p a ∧ (p a = true → Ok (φ ((ρ.set k none).set k (some (.p (e a)))) M) fun v M2 => M2 = M ∧ v.stl = .p (f a)))
    (hq : Q (.new (.lst ((xs.filter p).map f))) M) : Ok (lcL (stL (xs.map e)) (gNm k) t φ [k] FUEL 0 [] ρ M) Q :=
  lc_pure xs e p f hn (st_map xs e M) (fun a ha => ⟨_, rfl, hs a ha⟩) hq
/-- .. without a test -/
theorem lc_map {α β : Type} {φ : PFn} {k : Nat} {ρ : Env} {M : Mem} {Q : Ev → Mem → Prop} (xs : List α) (e : α → P) (f : α → β) (e' : β → P) (hn : xs.length ≤ sizeLine)
    (hs : ∀ a, a ∈ xs → Ok (φ ((ρ.set k none).set k (some (.p (e a)))) M) fun v M2 => M2 = M ∧ v.stl = .p (e' (f a))) (hq : Q (.new (.lst ((xs.map f).map e'))) M) : Ok (lcL (stL (xs.map e)) (gNm k) tTrue φ [k] FUEL 0 [] ρ M) Q := by
  refine lc_list xs e (fun _ => true) (fun a => e' (f a)) hn (fun a ha => ?_) ?_
  · rw [ok_tTrue]
    exact ⟨rfl, rfl, fun _ => hs a ha⟩
  · rw [List.filter_eq_self.mpr (fun _ _ => rfl), show (xs.map fun a => e' (f a)) = (xs.map f).map e' from (List.map_map ..).symm]
    exact hq
/-- .. that keeps the items -/
theorem lc_filter {α : Type} {t : TFn} {φ : PFn} {k : Nat} {ρ : Env} {M : Mem} {Q : Ev → Mem → Prop} (xs : List α) (e : α → P) (p : α → Bool) (hn : xs.length ≤ sizeLine)
    (ht : ∀ a, a ∈ xs → Ok (t ((ρ.set k none).set k (some (.p (e a)))) M) fun b M1 => M1 = M ∧ b = p a) (hs : ∀ a, a ∈ xs → Ok (φ ((ρ.set k none).set k (some (.p (e a)))) M) fun v M2 => M2 = M ∧ v.stl = .p (e a))
    (hq : Q (.new (.lst ((xs.filter p).map e))) M) : Ok (lcL (stL (xs.map e)) (gNm k) t φ [k] FUEL 0 [] ρ M) Q :=
  lc_list xs e p e hn (fun a ha => (ht a ha).mono fun b M1 ⟨h1, h2⟩ => ⟨h1, h2, fun _ => hs a ha⟩) hq
/-- .. filtered and mapped -/
theorem lc_fm {α β : Type} {t : TFn} {φ : PFn} {k : Nat} {ρ : Env} {M : Mem} {Q : Ev → Mem → Prop} (xs : List α) (e : α → P) (p : α → Bool) (f : α → β) (e' : β → P) (hn : xs.length ≤ sizeLine)
    (ht : ∀ a, a ∈ xs → Ok (t ((ρ.set k none).set k (some (.p (e a)))) M) fun b M1 => M1 = M ∧ b = p a) (hs : ∀ a, a ∈ xs → p a = true → Ok (φ ((ρ.set k none).set k (some (.p (e a)))) M) fun v M2 => M2 = M ∧ v.stl = .p (e' (f a)))
    (hq : Q (.new (.lst (((xs.filter p).map f).map e'))) M) : Ok (lcL (stL (xs.map e)) (gNm k) t φ [k] FUEL 0 [] ρ M) Q := by
  refine lc_list xs e p (fun a => e' (f a)) hn (fun a ha => (ht a ha).mono fun b M1 ⟨h1, h2⟩ => ⟨h1, h2, fun h3 => hs a ha h3⟩) ?_
  rw [show ((xs.filter p).map fun a => e' (f a)) = ((xs.filter p).map f).map e' from (List.map_map ..).symm]
  exact hq
theorem boolsP_map : ∀ bs : List Bool, boolsP (bs.map .bool) = some bs
  | [] => rfl
  | b :: bs => by
    show (boolsP (bs.map .bool)).map (b :: ·) = _
    rw [boolsP_map bs]; rfl
theorem all_bools (bs : List Bool) (M : Mem) : bAll [.p (.list (bs.map .bool))] M = some (.d (.p (.bool (bs.all id))), M) := by
  simp only [bAll, listP, pv_p, boolsP_map, Option.map_some]
theorem any_bools (bs : List Bool) (M : Mem) : bAny [.p (.list (bs.map .bool))] M = some (.d (.p (.bool (bs.any id))), M) := by
  simp only [bAny, listP, pv_p, boolsP_map, Option.map_some]
/-! ### lists that change -/
theorem kind_obj {n : Nat} {M : Mem} {xs : List P} (h : M[n]? = some (.lst xs)) : kindD (.obj n) M = some "list" := by simp only [kindD, pv_obj h]
theorem gm_append : gmAppend "list" = some mAppend := rfl
theorem gm_extend : gmExtend "list" = some mExtend := rfl
theorem gm_pop : gmPop "list" = some mPop := rfl
theorem mapp {n : Nat} {M : Mem} {xs : List P} {y : P} (h : M[n]? = some (.lst xs)) (hz : xs.length < sizeLine) : mAppend (.obj n) [.p y] M = some (.d (.p .none), M.set n (.lst (xs ++ [y]))) := by
  simp only [mAppend, pur_p, h, if_pos hz]
theorem mext {n : Nat} {M : Mem} {xs ys : List P} (h : M[n]? = some (.lst xs)) (hz : xs.length + ys.length ≤ sizeLine) : mExtend (.obj n) [.p (.list ys)] M = some (.d (.p .none), M.set n (.lst (xs ++ ys))) := by
  simp only [mExtend, listP, pv_p, h, if_pos hz]
theorem mpop {n : Nat} {M : Mem} {xs : List P} {i : Int} {k : Nat} {y : P} (h : M[n]? = some (.lst xs)) (hk : i = (k : Int)) (hz : k < sizeLine) (hy : xs[k]? = some y) : mPop (.obj n) [.p (.int i)] M = some (.d (.p y), M.set n (.lst (xs.eraseIdx k))) := by
  subst hk
  have h2 : (0 : Int) ≤ k ∧ (k : Int) < 2 ^ 63 := ⟨by omega, by rw [sizeLine_eq] at hz; omega⟩
  simp only [mPop, h, if_pos h2, Int.toNat_natCast, hy]
theorem mpop0 {n : Nat} {M : Mem} {xs : List P} {y : P} (h : M[n]? = some (.lst (xs ++ [y]))) : mPop (.obj n) [] M = some (.d (.p y), M.set n (.lst xs)) := by
  simp [mPop, h]
theorem pur_obj {n : Nat} {M : Mem} {xs : List P} (h : M[n]? = some (.lst xs)) : pur (.obj n) M = some (.list xs, M.set n .dead) := by
  simp only [pur, h]
theorem purs_obj {n : Nat} {M : Mem} {xs : List P} {ds : List D} (h : M[n]? = some (.lst xs)) : purs (.obj n :: ds) M = (purs ds (M.set n .dead)).map fun x => (.list xs :: x.1, x.2) := by
  simp only [purs, pur_obj h]
  cases purs ds (M.set n .dead) <;> rfl
theorem dSl_tuple (xs : List P) (lo hi : Option Int) (M : Mem) : dSl lo hi (.p (.tuple xs)) M = some (.d (.p (.tuple (cutP xs lo hi)))) := rfl
theorem dSl_list (xs : List P) (lo hi : Option Int) (M : Mem) : dSl lo hi (.p (.list xs)) M = some (.new (.lst (cutP xs lo hi))) := rfl
theorem dSl_frz (xs : List P) (lo hi : Option Int) (M : Mem) : dSl lo hi (.frz xs) M = some (.new (.lst (cutP xs lo hi))) := rfl
theorem dAdd_list {xs ys : List P} (h : xs.length + ys.length ≤ sizeLine) (M : Mem) : dAdd (.p (.list xs)) (.p (.list ys)) M = some (.new (.lst (xs ++ ys))) := by
  simp only [dAdd, pv_p, if_pos h]
theorem dAdd_tuple {xs ys : List P} (h : xs.length + ys.length ≤ sizeLine) (M : Mem) : dAdd (.p (.tuple xs)) (.p (.tuple ys)) M = some (.d (.p (.tuple (xs ++ ys)))) := by
  simp only [dAdd, pv_p, if_pos h]
/-! the memory behind what stood -/
theorem at_len (M : Mem) (o : MObj) (R : Mem) : (M ++ o :: R)[M.length]? = some o := by simp
theorem set_len (M : Mem) (o o' : MObj) (R : Mem) : (M ++ o :: R).set M.length o' = M ++ o' :: R := by simp
theorem take_len (M R : Mem) : (M ++ R).take M.length = M := by simp
theorem fin_obj_new {n j : Nat} {M : Mem} {xs : List P} (hj : ¬ j < n) (h : M[j]? = some (.lst xs)) : fin n (.ok (.rt (.d (.obj j))) M) = .ok (.new (.lst xs)) (M.take n) := by
  simp only [fin, if_neg hj, h]
theorem fin_new (n : Nat) (o : MObj) (M : Mem) : fin n (.ok (.rt (.new o)) M) = .ok (.new o) (M.take n) := rfl
theorem small_of {i : Int} (h1 : -1000000000000 ≤ i) (h2 : i ≤ 1000000000000) : smallI i = true := by
  have e : (2 : Int) ^ 62 = 4611686018427387904 := by decide
  unfold smallI
  rw [e]
  exact decide_eq_true ⟨by omega, by omega⟩
theorem rg1_nat {n : Nat} (h : n ≤ 1000000000) : rg1 [.p (.int (n : Int))] = some (stR 0 n) := by
  show (if smallI n = true then some (stR 0 (n : Int).toNat) else none) = _
  rw [if_pos (small_of (by omega) (by omega))]
  rfl
theorem rg1_int {i : Int} (h0 : 0 ≤ i) (h : i ≤ 1000000000) : rg1 [.p (.int i)] = some (stR 0 i.toNat) := by
  show (if smallI i = true then some (stR 0 i.toNat) else none) = _
  rw [if_pos (small_of (by omega) (by omega))]
end Cb

set_option Elab.async false
set_option linter.all false
set_option maxRecDepth 100000
/-! Fz, part A: data with a Lean type (explicit encoders), and what an expression gives, as equations. -/
namespace Cb
open PySem PySem.Spec PyProof.Rows L2
open PySem.W (Datum DatumOrd Tup)

/-- how a Lean type stands for data -/
structure Enc (α : Type) [DecidableEq α] where
  f : α → P
  d : Nat
  pl : ∀ a, (f a).plain = true
  dp : ∀ a, (f a).depth ≤ d
  eqv : ∀ a b, PyData.eqv (f a) (f b) = decide (a = b)
/-- .. with an order -/
structure EncO {α : Type} [DecidableEq α] (e : Enc α) : Prop where
  alike : ∀ a b, PySem.W.alike (e.f a) (e.f b) = true
  nn : ∀ a, isNoneP (e.f a) = false
@[reducible] def eInt : Enc Int := ⟨.int, 0, fun _ => rfl, fun _ => Nat.le_refl _, Datum.eqv⟩
@[reducible] def eBool : Enc Bool := ⟨.bool, 0, fun _ => rfl, fun _ => Nat.le_refl _, Datum.eqv⟩
@[reducible] def eStr : Enc Str := ⟨.str, 0, fun _ => rfl, fun _ => Nat.le_refl _, Datum.eqv⟩
@[reducible] def eUnit : Enc Unit := ⟨fun _ => .none, 0, fun _ => rfl, fun _ => Nat.le_refl _, Datum.eqv⟩
section
variable {α β γ δ : Type} [DecidableEq α] [DecidableEq β] [DecidableEq γ] [DecidableEq δ]
theorem Enc.plAll (e : Enc α) : ∀ xs : List α, PyData.plainAll (xs.map e.f) = true
  | [] => rfl
  | x :: xs => by rw [List.map_cons, PyData.plainAll, e.pl x, e.plAll xs]; rfl
theorem Enc.dpAll (e : Enc α) : ∀ xs : List α, PyData.depthAll (xs.map e.f) ≤ e.d
  | [] => Nat.zero_le _
  | x :: xs => by rw [List.map_cons, PyData.depthAll]; exact Nat.max_le.mpr ⟨e.dp x, e.dpAll xs⟩
theorem Enc.eqvAll (e : Enc α) : ∀ xs ys : List α, PyData.eqvAll (xs.map e.f) (ys.map e.f) = decide (xs = ys)
  | [], [] => by simp only [List.map_nil, PyData.eqvAll, decide_true]
  | [], _ :: _ => by simp [PyData.eqvAll]
  | _ :: _, [] => by simp [PyData.eqvAll]
  | x :: xs, y :: ys => by
    rw [List.map_cons, List.map_cons, PyData.eqvAll, e.eqv x y, e.eqvAll xs ys, ← Bool.decide_and]
    exact decide_eq_decide.mpr (by rw [List.cons.injEq])
@[reducible] def eTu (e : Enc α) : Enc (List α) := ⟨fun xs => .tuple (xs.map e.f), e.d + 1, fun xs => by simp only [PyData.plain]; exact e.plAll xs, fun xs => by simp only [PyData.depth]; exact Nat.succ_le_succ (e.dpAll xs), fun xs ys => by simp only [PyData.eqv]; exact e.eqvAll xs ys⟩
@[reducible] def eLi (e : Enc α) : Enc (List α) := ⟨fun xs => .list (xs.map e.f), e.d + 1, fun xs => by simp only [PyData.plain]; exact e.plAll xs, fun xs => by simp only [PyData.depth]; exact Nat.succ_le_succ (e.dpAll xs), fun xs ys => by simp only [PyData.eqv]; exact e.eqvAll xs ys⟩
@[reducible] def ePr (e : Enc α) (k : Enc β) : Enc (α × β) := ⟨fun x => .tuple [e.f x.1, k.f x.2], max e.d k.d + 1, fun x => by simp only [PyData.plain, PyData.plainAll, e.pl, k.pl, Bool.and_self], fun x => by
    simp only [PyData.depth, PyData.depthAll]
    exact Nat.succ_le_succ (Nat.max_le.mpr ⟨Nat.le_trans (e.dp _) (Nat.le_max_left _ _), Nat.max_le.mpr ⟨Nat.le_trans (k.dp _) (Nat.le_max_right _ _), Nat.zero_le _⟩⟩), fun x y => by
    simp only [PyData.eqv, PyData.eqvAll]
    rw [e.eqv, k.eqv, Bool.and_true, ← Bool.decide_and]
    exact decide_eq_decide.mpr ⟨fun z => Prod.ext z.1 z.2, fun z => by rw [z]; exact ⟨rfl, rfl⟩⟩⟩
@[reducible] def ePr3 (e : Enc α) (k : Enc β) (l : Enc γ) : Enc (α × β × γ) := ⟨fun x => .tuple [e.f x.1, k.f x.2.1, l.f x.2.2], max e.d (max k.d l.d) + 1, fun x => by simp only [PyData.plain, PyData.plainAll, e.pl, k.pl, l.pl, Bool.and_self], fun x => by
    simp only [PyData.depth, PyData.depthAll]
    have h1 := e.dp x.1
    have h2 := k.dp x.2.1
    have h3 := l.dp x.2.2
    omega, fun x y => by
    simp only [PyData.eqv, PyData.eqvAll]
    rw [e.eqv, k.eqv, l.eqv, Bool.and_true, ← Bool.decide_and, ← Bool.decide_and]
    exact decide_eq_decide.mpr ⟨fun z => Prod.ext z.1 (Prod.ext z.2.1 z.2.2), fun z => by rw [z]; exact ⟨rfl, rfl, rfl⟩⟩⟩
@[reducible] def ePr4 (e : Enc α) (k : Enc β) (l : Enc γ) (m : Enc δ) : Enc (α × β × γ × δ) := ⟨fun x => .tuple [e.f x.1, k.f x.2.1, l.f x.2.2.1, m.f x.2.2.2], max e.d (max k.d (max l.d m.d)) + 1, fun x => by simp only [PyData.plain, PyData.plainAll, e.pl, k.pl, l.pl, m.pl, Bool.and_self], fun x => by
    simp only [PyData.depth, PyData.depthAll]
    have h1 := e.dp x.1
    have h2 := k.dp x.2.1
    have h3 := l.dp x.2.2.1
    have h4 := m.dp x.2.2.2
    omega, fun x y => by
    simp only [PyData.eqv, PyData.eqvAll]
    rw [e.eqv, k.eqv, l.eqv, m.eqv, Bool.and_true, ← Bool.decide_and, ← Bool.decide_and, ← Bool.decide_and]
    exact decide_eq_decide.mpr ⟨fun z => Prod.ext z.1 (Prod.ext z.2.1 (Prod.ext z.2.2.1 z.2.2.2)), fun z => by rw [z]; exact ⟨rfl, rfl, rfl, rfl⟩⟩⟩
/-- the tuple, or None -/
@[reducible] def eOp (e : Enc α) (h : ∀ a, isNoneP (e.f a) = false) : Enc (Option α) := ⟨fun x => match x with
    | some a => e.f a
    | none => .none, e.d, fun x => by cases x with
    | some a => exact e.pl a
    | none => rfl, fun x => by cases x with
    | some a => exact e.dp a
    | none => exact Nat.zero_le _, fun x y => by
    cases x with
    | none => cases y with
      | none => simp [PyData.eqv]
      | some b =>
        have := h b
        simp only [reduceCtorEq, decide_false]
        cases z : e.f b <;> first | rfl | (rw [z] at this; cases this)
    | some a => cases y with
      | none =>
        have := h a
        simp only [reduceCtorEq, decide_false]
        cases z : e.f a <;> first | rfl | (rw [z] at this; cases this)
      | some b => simp only [e.eqv]; exact decide_eq_decide.mpr (by rw [Option.some.injEq])⟩
theorem Enc.ok (e : Enc α) (h : e.d ≤ 60) (a : α) : okP (e.f a) = true := by
  unfold okP
  rw [e.pl a, Bool.true_and, decide_eq_true_eq]
  exact Nat.le_trans (e.dp a) h
theorem Enc.inj (e : Enc α) {a b : α} (h : e.f a = e.f b) : a = b := by
  have h1 := e.eqv a b
  have h2 := e.eqv a a
  rw [decide_eq_true rfl] at h2
  rw [← h, h2] at h1
  exact of_decide_eq_true h1.symm
theorem oInt : EncO eInt := ⟨DatumOrd.alike (α := Int), fun _ => rfl⟩
theorem oBool : EncO eBool := ⟨DatumOrd.alike (α := Bool), fun _ => rfl⟩
theorem oStr : EncO eStr := ⟨DatumOrd.alike (α := Str), fun _ => rfl⟩
theorem EncO.all {e : Enc α} (o : EncO e) : ∀ xs ys : List α, PySem.W.alikeAll (xs.map e.f) (ys.map e.f) = true
  | [], _ => by rw [List.map_nil, PySem.W.alikeAll]
  | _ :: _, [] => by rw [List.map_nil, List.map_cons, PySem.W.alikeAll]
  | x :: xs, y :: ys => by
    rw [List.map_cons, List.map_cons, PySem.W.alikeAll, o.alike x y, o.all xs ys]
    rfl
theorem oTu {e : Enc α} (o : EncO e) : EncO (eTu e) := ⟨fun xs ys => by show PySem.W.alike (.tuple _) (.tuple _) = true; simp only [PySem.W.alike]; exact o.all xs ys, fun _ => rfl⟩
theorem oLi {e : Enc α} (o : EncO e) : EncO (eLi e) := ⟨fun xs ys => by show PySem.W.alike (.list _) (.list _) = true; simp only [PySem.W.alike]; exact o.all xs ys, fun _ => rfl⟩
theorem oPr {e : Enc α} {k : Enc β} (o : EncO e) (p : EncO k) : EncO (ePr e k) := ⟨fun x y => by show PySem.W.alike (.tuple [_, _]) (.tuple [_, _]) = true; simp only [PySem.W.alike, PySem.W.alikeAll, o.alike, p.alike, Bool.and_self], fun _ => rfl⟩
theorem oPr3 {e : Enc α} {k : Enc β} {l : Enc γ} (o : EncO e) (p : EncO k) (q : EncO l) : EncO (ePr3 e k l) := ⟨fun x y => by show PySem.W.alike (.tuple [_, _, _]) (.tuple [_, _, _]) = true; simp only [PySem.W.alike, PySem.W.alikeAll, o.alike, p.alike, q.alike, Bool.and_self], fun _ => rfl⟩

/-! operators -/
theorem q_eq (e : Enc α) (h : e.d ≤ 60) (a b : α) : gEq (e.f a) (e.f b) = some (.bool (decide (a = b))) := by
  unfold gEq
  rw [e.ok h, e.ok h, Bool.and_self, if_pos rfl, e.eqv]
theorem q_ne (e : Enc α) (h : e.d ≤ 60) (a b : α) : gNe (e.f a) (e.f b) = some (.bool (!decide (a = b))) := by
  unfold gNe
  rw [e.ok h, e.ok h, Bool.and_self, if_pos rfl, e.eqv]
theorem q_cmp {e : Enc α} (o : EncO e) (h : e.d ≤ 60) (a b : α) : cmpOk (e.f a) (e.f b) = true := by
  unfold cmpOk
  rw [e.ok h, e.ok h, o.alike, o.nn]; rfl
/-- Python's order -/
def ltE (e : Enc α) (a b : α) : Bool := PySem.W.dataLt (e.f a) (e.f b)
theorem q_lt {e : Enc α} (o : EncO e) (h : e.d ≤ 60) (a b : α) : gLt (e.f a) (e.f b) = some (.bool (ltE e a b)) := by unfold gLt; rw [if_pos (q_cmp o h a b)]; rfl
theorem q_gt {e : Enc α} (o : EncO e) (h : e.d ≤ 60) (a b : α) : gGt (e.f a) (e.f b) = some (.bool (ltE e b a)) := by unfold gGt; rw [if_pos (q_cmp o h a b)]; rfl
theorem q_le {e : Enc α} (o : EncO e) (h : e.d ≤ 60) (a b : α) : gLe (e.f a) (e.f b) = some (.bool (!ltE e b a)) := by unfold gLe; rw [if_pos (q_cmp o h a b)]; rfl
theorem q_ge {e : Enc α} (o : EncO e) (h : e.d ≤ 60) (a b : α) : gGe (e.f a) (e.f b) = some (.bool (!ltE e a b)) := by unfold gGe; rw [if_pos (q_cmp o h a b)]; rfl
theorem q_any (e : Enc α) (xs : List α) (a : α) : ((xs.map e.f).any fun z => PyData.eqv z (e.f a)) = decide (a ∈ xs) := by
  rw [Bool.eq_iff_iff, List.any_eq_true, decide_eq_true_eq]
  constructor
  · rintro ⟨d, hd, h⟩
    obtain ⟨b, hb, rfl⟩ := List.mem_map.mp hd
    rw [e.eqv, decide_eq_true_eq] at h
    exact h ▸ hb
  · intro h
    exact ⟨e.f a, List.mem_map.mpr ⟨a, h, rfl⟩, by rw [e.eqv]; simp⟩
theorem q_inT (e : Enc α) (h : e.d + 1 ≤ 60) (a : α) (xs : List α) : gIn (e.f a) (.tuple (xs.map e.f)) = some (.bool (decide (a ∈ xs))) := by
  have : okP (.tuple (xs.map e.f)) = true := (eTu e).ok h xs
  unfold gIn
  show Option.map _ (if _ then _ else _) = _
  rw [e.ok (Nat.le_of_succ_le h), this, Bool.and_self, if_pos rfl, q_any]; rfl
theorem q_inL (e : Enc α) (h : e.d + 1 ≤ 60) (a : α) (xs : List α) : gIn (e.f a) (.list (xs.map e.f)) = some (.bool (decide (a ∈ xs))) := by
  have : okP (.list (xs.map e.f)) = true := (eLi e).ok h xs
  unfold gIn
  show Option.map _ (if _ then _ else _) = _
  rw [e.ok (Nat.le_of_succ_le h), this, Bool.and_self, if_pos rfl, q_any]; rfl
theorem q_niT (e : Enc α) (h : e.d + 1 ≤ 60) (a : α) (xs : List α) : gNotIn (e.f a) (.tuple (xs.map e.f)) = some (.bool (!decide (a ∈ xs))) := by
  have : okP (.tuple (xs.map e.f)) = true := (eTu e).ok h xs
  unfold gNotIn
  show Option.map _ (if _ then _ else _) = _
  rw [e.ok (Nat.le_of_succ_le h), this, Bool.and_self, if_pos rfl, q_any]; rfl
theorem q_niL (e : Enc α) (h : e.d + 1 ≤ 60) (a : α) (xs : List α) : gNotIn (e.f a) (.list (xs.map e.f)) = some (.bool (!decide (a ∈ xs))) := by
  have : okP (.list (xs.map e.f)) = true := (eLi e).ok h xs
  unfold gNotIn
  show Option.map _ (if _ then _ else _) = _
  rw [e.ok (Nat.le_of_succ_le h), this, Bool.and_self, if_pos rfl, q_any]; rfl

/-! sorting -/
def leE (e : Enc α) (a b : α) : Bool := !ltE e b a
def srtE (e : Enc α) (xs : List α) : List α := xs.mergeSort (leE e)
theorem leE_toks (e : Enc α) (a b : α) : leE e a b = !PyProof.Rows.lexLt PyProof.Rows.itemOrd (PySem.W.keyToks (e.f b)) (PySem.W.keyToks (e.f a)) := rfl
theorem toksE_inj {e : Enc α} (o : EncO e) {a b : α} (h : PySem.W.keyToks (e.f a) = PySem.W.keyToks (e.f b)) : a = b := by
  by_cases z : a = b
  · exact z
  · have ev : PyData.eqv (e.f a) (e.f b) = false := by rw [e.eqv]; simpa using z
    have := (PySem.W.toks_eqv _ _ (o.alike a b)).2 ev [] [.inl 0]
    rw [h, PySem.W.lex_pre, PyProof.Rows.lex_irrefl] at this
    cases this
theorem leE_trans (e : Enc α) (a b c : α) : leE e a b = true → leE e b c = true → leE e a c = true := by
  rw [leE_toks, leE_toks, leE_toks, Bool.not_eq_true', Bool.not_eq_true', Bool.not_eq_true']
  intro h1 h2
  cases z : PyProof.Rows.lexLt PyProof.Rows.itemOrd (PySem.W.keyToks (e.f c)) (PySem.W.keyToks (e.f a)) with
  | false => rfl
  | true =>
    rcases PyProof.Rows.lex_negTrans _ (PySem.W.keyToks (e.f b)) _ z with q | q
    · rw [h2] at q; cases q
    · rw [h1] at q; cases q
theorem leE_total (e : Enc α) (a b : α) : (leE e a b || leE e b a) = true := by
  rw [leE_toks, leE_toks]
  cases z : PyProof.Rows.lexLt PyProof.Rows.itemOrd (PySem.W.keyToks (e.f b)) (PySem.W.keyToks (e.f a)) with
  | false => rfl
  | true =>
    cases z2 : PyProof.Rows.lexLt PyProof.Rows.itemOrd (PySem.W.keyToks (e.f a)) (PySem.W.keyToks (e.f b)) with
    | false => rfl
    | true =>
      have := PyProof.Rows.lex_trans _ _ _ z z2
      rw [PyProof.Rows.lex_irrefl] at this
      cases this
theorem leE_antisymm {e : Enc α} (o : EncO e) {a b : α} (h1 : leE e a b = true) (h2 : leE e b a = true) : a = b := by
  rw [leE_toks, Bool.not_eq_true'] at h1 h2
  exact toksE_inj o (PyProof.Rows.lex_total _ _ h2 h1)
theorem srtE_perm (e : Enc α) (xs : List α) : (srtE e xs).Perm xs := List.mergeSort_perm _ _
theorem srtE_pw (e : Enc α) (xs : List α) : (srtE e xs).Pairwise fun a b => leE e a b = true := List.pairwise_mergeSort (leE_trans e) (leE_total e) xs
theorem srtE_eq {e : Enc α} (o : EncO e) {xs ys : List α} (h : xs.Perm ys) : srtE e xs = srtE e ys :=
  List.Perm.eq_of_pairwise (fun _ _ _ _ => leE_antisymm o) (srtE_pw e xs) (srtE_pw e ys) ((srtE_perm e xs).trans (h.trans (srtE_perm e ys).symm))
theorem srtE_of (e : Enc α) {xs : List α} (h : xs.Pairwise fun a b => leE e a b = true) : srtE e xs = xs := List.mergeSort_of_pairwise h
theorem mem_srtE {e : Enc α} {xs : List α} {a : α} : a ∈ srtE e xs ↔ a ∈ xs := (srtE_perm e xs).mem_iff
theorem srtE_length (e : Enc α) (xs : List α) : (srtE e xs).length = xs.length := (srtE_perm e xs).length_eq
theorem srtE_nodup {e : Enc α} {xs : List α} : (srtE e xs).Nodup ↔ xs.Nodup := (srtE_perm e xs).nodup_iff
theorem sortP_mapE (e : Enc α) (xs : List α) : sortP (xs.map e.f) = (srtE e xs).map e.f := by
  unfold sortP srtE
  refine (List.map_mergeSort (f := e.f) fun a _ b _ => ?_).symm
  rfl
theorem sortOkE {e : Enc α} (o : EncO e) (h : e.d ≤ 60) {xs : List α} (h2 : (∀ a ∈ xs, tup1 (e.f a) = true) ∨ ∀ a ∈ xs, flat1 (e.f a) = true) : sortOk (xs.map e.f) = true := by
  unfold sortOk
  simp only [Bool.and_eq_true, Bool.or_eq_true, List.all_eq_true, List.mem_map, forall_exists_index, and_imp, forall_apply_eq_imp_iff₂]
  exact ⟨⟨fun a _ => e.ok h a, fun a _ b _ => o.alike a b⟩, h2⟩
end

/-! ### what an expression gives; the memory stays -/
section
variable {α β : Type} [DecidableEq α] [DecidableEq β] {ρ : Env} {M : Mem} {φ ψ : PFn} {t u : TFn} {αs βs : AFn}
def ES (φ : PFn) (ρ : Env) (M : Mem) (d : D) : Prop := ∃ e, φ ρ M = .ok e M ∧ e.stl = d
def EN (φ : PFn) (ρ : Env) (M : Mem) (o : MObj) : Prop := φ ρ M = .ok (.new o) M
/-- .. read, whether it may change or not -/
def EP (φ : PFn) (ρ : Env) (M : Mem) (x : P) : Prop := ∃ d, ES φ ρ M d ∧ pv d M = some x
def TS (t : TFn) (ρ : Env) (M : Mem) (b : Bool) : Prop := t ρ M = .ok b M
def AS (α : AFn) (ρ : Env) (M : Mem) (ds : List D) : Prop := α ρ M = .ok ds M
def FS1 (fs : FS) (ds : List D) (M : Mem) (d : D) : Prop := ∃ e, fs ds M = .ok e M ∧ e.stl = d
def FN1 (fs : FS) (ds : List D) (M : Mem) (o : MObj) : Prop := fs ds M = .ok (.new o) M
theorem ES.go {d : D} (h : ES φ ρ M d) : stl (φ ρ M) = .ok d M := by
  obtain ⟨e, h1, h2⟩ := h
  rw [h1, stl_ok, h2]
theorem es_var {i : Nat} {d : D} (h : ρ[i]? = some (some d)) : ES (eVar i) ρ M d := ⟨.d d, by unfold eVar; rw [h], rfl⟩
theorem es_c {d : D} : ES (eD d) ρ M d := ⟨.d d, rfl, rfl⟩
theorem ep_es {x : P} (h : ES φ ρ M (.p x)) : EP φ ρ M x := ⟨_, h, rfl⟩
theorem es_en {o : MObj} (h : EN φ ρ M o) : ES φ ρ M (.p o.toP) := ⟨_, h, rfl⟩
theorem ep_lst {i n : Nat} {xs : List P} (h : ρ[i]? = some (some (.obj n))) (hm : M[n]? = some (.lst xs)) : EP (eVar i) ρ M (.list xs) := ⟨_, es_var h, pv_obj hm⟩
theorem ep_dct {i n : Nat} {xs : List (P × P)} (h : ρ[i]? = some (some (.obj n))) (hm : M[n]? = some (.dct xs)) : EP (eVar i) ρ M (.dict xs) := ⟨_, es_var h, by simp only [pv, hm]⟩
theorem es_onP {g : P → P → Option P} {x y z : P} (h1 : EP φ ρ M x) (h2 : EP ψ ρ M y) (hg : g x y = some z) : ES (eBin (onP g) φ ψ) ρ M (.p z) := by
  obtain ⟨d1, a1, a2⟩ := h1
  obtain ⟨d2, b1, b2⟩ := h2
  refine ⟨.d (.p z), ?_, rfl⟩
  unfold eBin
  rw [a1.go, Res.bind_ok, b1.go, Res.bind_ok]
  simp only [onP, a2, b2, hg, Option.map_some, ofO_some]
theorem es_add {x y : P} {r : Ev} (h1 : EP φ ρ M x) (h2 : EP ψ ρ M y) (hg : dAdd (.p x) (.p y) M = some r) : eBin dAdd φ ψ ρ M = .ok r M := by
  obtain ⟨d1, a1, a2⟩ := h1
  obtain ⟨d2, b1, b2⟩ := h2
  unfold eBin
  rw [a1.go, Res.bind_ok, b1.go, Res.bind_ok]
  have : dAdd d1 d2 M = dAdd (.p x) (.p y) M := by simp only [dAdd, a2, b2, pv_p]
  rw [this, hg, ofO_some]
theorem es_addI {i j : Int} (h1 : EP φ ρ M (.int i)) (h2 : EP ψ ρ M (.int j)) : ES (eBin dAdd φ ψ) ρ M (.p (.int (i + j))) := ⟨_, es_add h1 h2 rfl, rfl⟩
theorem es_addT (e : Enc α) {xs ys : List α} (h1 : EP φ ρ M (.tuple (xs.map e.f))) (h2 : EP ψ ρ M (.tuple (ys.map e.f))) (hl : xs.length + ys.length ≤ sizeLine) : ES (eBin dAdd φ ψ) ρ M (.p (.tuple ((xs ++ ys).map e.f))) :=
  ⟨_, es_add h1 h2 (dAdd_tuple (by rw [List.length_map, List.length_map]; exact hl) M), by rw [List.map_append]; rfl⟩
theorem en_addL (e : Enc α) {xs ys : List α} (h1 : EP φ ρ M (.list (xs.map e.f))) (h2 : EP ψ ρ M (.list (ys.map e.f))) (hl : xs.length + ys.length ≤ sizeLine) : EN (eBin dAdd φ ψ) ρ M (.lst ((xs ++ ys).map e.f)) := by
  unfold EN
  rw [es_add h1 h2 (dAdd_list (by rw [List.length_map, List.length_map]; exact hl) M), List.map_append]
theorem es_subT (e : Enc α) {xs : List α} {i : Int} {y : α} (h1 : EP φ ρ M (.tuple (xs.map e.f))) (h2 : ES ψ ρ M (.p (.int i))) (hi : atI xs i = some y) : ES (eBin dSub φ ψ) ρ M (.p (e.f y)) := by
  obtain ⟨d1, a1, a2⟩ := h1
  refine ⟨.d (.p (e.f y)), ?_, rfl⟩
  unfold eBin
  rw [a1.go, Res.bind_ok, h2.go, Res.bind_ok]
  have : atI (xs.map e.f) i = some (e.f y) := by
    unfold atI at hi ⊢
    rw [List.length_map]
    cases z : ixN xs.length i with
    | none => rw [z] at hi; cases hi
    | some k => rw [z] at hi; simp only [Option.bind_some] at hi ⊢; rw [List.getElem?_map, hi]; rfl
  simp only [dSub, a2, this, Option.map_some, ofO_some]
theorem es_subL (e : Enc α) {xs : List α} {i : Int} {y : α} (h1 : EP φ ρ M (.list (xs.map e.f))) (h2 : ES ψ ρ M (.p (.int i))) (hi : atI xs i = some y) : ES (eBin dSub φ ψ) ρ M (.p (e.f y)) := by
  obtain ⟨d1, a1, a2⟩ := h1
  refine ⟨.d (.p (e.f y)), ?_, rfl⟩
  unfold eBin
  rw [a1.go, Res.bind_ok, h2.go, Res.bind_ok]
  have : atI (xs.map e.f) i = some (e.f y) := by
    unfold atI at hi ⊢
    rw [List.length_map]
    cases z : ixN xs.length i with
    | none => rw [z] at hi; cases hi
    | some k => rw [z] at hi; simp only [Option.bind_some] at hi ⊢; rw [List.getElem?_map, hi]; rfl
  simp only [dSub, a2, this, Option.map_some, ofO_some]
/-- a written place of a tuple of parts -/
theorem es_subP {xs : List P} {i : Int} {y : P} (h1 : EP φ ρ M (.tuple xs)) (h2 : ES ψ ρ M (.p (.int i))) (hi : atI xs i = some y) : ES (eBin dSub φ ψ) ρ M (.p y) := by
  obtain ⟨d1, a1, a2⟩ := h1
  refine ⟨.d (.p y), ?_, rfl⟩
  unfold eBin
  rw [a1.go, Res.bind_ok, h2.go, Res.bind_ok]
  simp only [dSub, a2, hi, Option.map_some, ofO_some]
theorem es_un {g : D → Mem → Option Ev} {d : D} {e : Ev} (h : ES φ ρ M d) (hg : g d M = some e) : ES (eUn g φ) ρ M e.stl := by
  refine ⟨e, ?_, rfl⟩
  unfold eUn
  rw [h.go, Res.bind_ok, hg, ofO_some]
theorem ts_val {b : Bool} (h : ES φ ρ M (.p (.bool b))) : TS (tVal φ) ρ M b := by
  unfold TS tVal
  rw [h.go]; rfl
theorem ts_not {b : Bool} (h : TS t ρ M b) : TS (tNot t) ρ M (!b) := by
  unfold TS tNot
  rw [h]; rfl
theorem ts_and {b c : Bool} (h : TS t ρ M b) (h2 : b = true → TS u ρ M c) : TS (tAnd t u) ρ M (b && c) := by
  unfold TS tAnd
  rw [h, Res.bind_ok]
  cases b with
  | true => exact h2 rfl
  | false => rfl
theorem ts_or {b c : Bool} (h : TS t ρ M b) (h2 : b = false → TS u ρ M c) : TS (tOr t u) ρ M (b || c) := by
  unfold TS tOr
  rw [h, Res.bind_ok]
  cases b with
  | true => rfl
  | false => exact h2 rfl
theorem ts_true : TS tTrue ρ M true := rfl
theorem es_not {b : Bool} (h : ES φ ρ M (.p (.bool b))) : ES (eNot φ) ρ M (.p (.bool (!b))) := by
  refine ⟨.d (.p (.bool (!b))), ?_, rfl⟩
  unfold eNot
  rw [h.go]; rfl
theorem es_and {b c : Bool} (h : ES φ ρ M (.p (.bool b))) (h2 : b = true → ES ψ ρ M (.p (.bool c))) : ES (eAnd φ ψ) ρ M (.p (.bool (b && c))) := by
  unfold ES eAnd
  rw [h.go]
  cases b with
  | true => exact h2 rfl
  | false => exact ⟨_, rfl, rfl⟩
theorem es_or {b c : Bool} (h : ES φ ρ M (.p (.bool b))) (h2 : b = false → ES ψ ρ M (.p (.bool c))) : ES (eOr φ ψ) ρ M (.p (.bool (b || c))) := by
  unfold ES eOr
  rw [h.go]
  cases b with
  | true => exact ⟨_, rfl, rfl⟩
  | false => exact h2 rfl
theorem es_if (e : α → D) {b : Bool} {x y : α} (h : TS t ρ M b) (h1 : b = true → ES φ ρ M (e x)) (h2 : b = false → ES ψ ρ M (e y)) : ES (eIf t φ ψ) ρ M (e (if b = true then x else y)) := by
  unfold ES eIf
  rw [h, Res.bind_ok]
  cases b with
  | true => exact h1 rfl
  | false => exact h2 rfl
theorem as_nil : AS aNil ρ M [] := rfl
theorem as_cons {d : D} {ds : List D} (h : ES φ ρ M d) (h2 : AS αs ρ M ds) : AS (aCons φ αs) ρ M (d :: ds) := by
  unfold AS aCons
  rw [h.go, Res.bind_ok, h2]; rfl
theorem as_starT {xs : List P} {ds : List D} (h : EP φ ρ M (.tuple xs)) (h2 : AS αs ρ M ds) : AS (aStar φ αs) ρ M (xs.map .p ++ ds) := by
  obtain ⟨d1, a1, a2⟩ := h
  unfold AS aStar
  rw [a1.go, Res.bind_ok]
  simp only [seqP, a2]
  rw [h2]; rfl
theorem as_starL {xs : List P} {ds : List D} (h : EP φ ρ M (.list xs)) (h2 : AS αs ρ M ds) : AS (aStar φ αs) ρ M (xs.map .p ++ ds) := by
  obtain ⟨d1, a1, a2⟩ := h
  unfold AS aStar
  rw [a1.go, Res.bind_ok]
  simp only [seqP, a2]
  rw [h2]; rfl
theorem purs_ps (xs : List P) (M : Mem) : purs (xs.map .p) M = some (xs, M) := by
  induction xs with
  | nil => rfl
  | cons x xs ih => rw [List.map_cons, purs_p, ih]; rfl
theorem le_small {α : Type} {xs : List α} {k : Nat} (h : xs.length = k) (hk : k ≤ 1000) : xs.length ≤ sizeLine := by rw [h, sizeLine_eq]; omega
theorem es_tup {xs : List P} (h : AS αs ρ M (xs.map .p)) (hz : xs.length ≤ sizeLine) : ES (eTup αs) ρ M (.p (.tuple xs)) := by
  refine ⟨.d (.p (.tuple xs)), ?_, rfl⟩
  unfold eTup
  rw [h, Res.bind_ok, purs_ps]
  simp only
  rw [if_pos hz]
theorem en_lst {xs : List P} (h : AS αs ρ M (xs.map .p)) (hz : xs.length ≤ sizeLine) : EN (eLst αs) ρ M (.lst xs) := by
  unfold EN eLst
  rw [h, Res.bind_ok, purs_ps]
  simp only
  rw [if_pos hz]
theorem es_call {fs : FS} {n m : Nat} {plan : List Src} {ds es bs : List D} {d : D} (h1 : AS αs ρ M ds) (h2 : AS βs ρ M es) (hl : ds.length = n ∧ es.length = m) (hp : planD plan (ds ++ es) = some bs) (hf : FS1 fs bs M d) : ES (eCallU fs n m plan αs βs) ρ M d := by
  obtain ⟨e, h3, h4⟩ := hf
  refine ⟨e, ?_, h4⟩
  unfold eCallU
  rw [h1, Res.bind_ok, h2, Res.bind_ok, if_pos hl, hp]
  exact h3
theorem en_call {fs : FS} {n m : Nat} {plan : List Src} {ds es bs : List D} {o : MObj} (h1 : AS αs ρ M ds) (h2 : AS βs ρ M es) (hl : ds.length = n ∧ es.length = m) (hp : planD plan (ds ++ es) = some bs) (hf : FN1 fs bs M o) : EN (eCallU fs n m plan αs βs) ρ M o := by
  unfold EN eCallU
  rw [h1, Res.bind_ok, h2, Res.bind_ok, if_pos hl, hp]
  exact hf
theorem es_callV {fs : FS} {ds : List D} {d : D} (h1 : AS αs ρ M ds) (hf : FS1 fs ds M d) : ES (eCallV fs αs) ρ M d := by
  obtain ⟨e, h3, h4⟩ := hf
  refine ⟨e, ?_, h4⟩
  unfold eCallV
  rw [h1, Res.bind_ok]
  exact h3
theorem FS1.of {fs : FS} {ds : List D} {o : MObj} (h : FN1 fs ds M o) : FS1 fs ds M (.p o.toP) := ⟨_, h, rfl⟩
/-! builtins of one argument -/
theorem es_b1 {g : List D → Mem → Option (Ev × Mem)} {x : P} {z : Ev} (h : EP φ ρ M x) (hg : ∀ d, pv d M = some x → g [d] M = some (z, M)) : eCallB g (aCons φ aNil) ρ M = .ok z M := by
  obtain ⟨d1, a1, a2⟩ := h
  unfold eCallB
  rw [show aCons φ aNil ρ M = .ok [d1] M from as_cons a1 as_nil, Res.bind_ok, hg d1 a2, ofM_some]
theorem es_b1v {g : List D → Mem → Option (Ev × Mem)} {x z : P} (h : EP φ ρ M x) (hg : ∀ d, pv d M = some x → g [d] M = some (.d (.p z), M)) : ES (eCallB g (aCons φ aNil)) ρ M (.p z) := ⟨_, es_b1 h hg, rfl⟩
theorem es_lenT {xs : List P} (h : EP φ ρ M (.tuple xs)) : ES (eCallB bLen (aCons φ aNil)) ρ M (.p (.int xs.length)) := es_b1v h fun d hd => by simp only [bLen, hd]
theorem es_lenL {xs : List P} (h : EP φ ρ M (.list xs)) : ES (eCallB bLen (aCons φ aNil)) ρ M (.p (.int xs.length)) := es_b1v h fun d hd => by simp only [bLen, hd]
theorem es_lenS {x : Str} (h : EP φ ρ M (.str x)) : ES (eCallB bLen (aCons φ aNil)) ρ M (.p (.int x.length)) := es_b1v h fun d hd => by simp only [bLen, hd]
theorem es_lenD {xs : List (P × P)} (h : EP φ ρ M (.dict xs)) : ES (eCallB bLen (aCons φ aNil)) ρ M (.p (.int xs.length)) := es_b1v h fun d hd => by simp only [bLen, hd]
theorem es_tupT {xs : List P} (h : EP φ ρ M (.tuple xs)) : ES (eCallB bTuple (aCons φ aNil)) ρ M (.p (.tuple xs)) := es_b1v h fun d hd => by simp only [bTuple, seqP, hd]
theorem es_tupL {xs : List P} (h : EP φ ρ M (.list xs)) : ES (eCallB bTuple (aCons φ aNil)) ρ M (.p (.tuple xs)) := es_b1v h fun d hd => by simp only [bTuple, seqP, hd]
theorem bList_of {d : D} {x : P} {xs : List P} (hd : pv d M = some x) (h : x = .tuple xs ∨ x = .list xs) : bList [d] M = some (.new (.lst xs), M) := by
  have e : seqP d M = some xs := by rcases h with h | h <;> simp only [seqP, hd, h]
  cases d with
  | frz ys => cases hd
  | _ => simp only [bList, e]
theorem en_listT {xs : List P} (h : EP φ ρ M (.tuple xs)) : EN (eCallB bList (aCons φ aNil)) ρ M (.lst xs) := es_b1 h fun d hd => bList_of hd (.inl rfl)
theorem en_listL {xs : List P} (h : EP φ ρ M (.list xs)) : EN (eCallB bList (aCons φ aNil)) ρ M (.lst xs) := es_b1 h fun d hd => bList_of hd (.inr rfl)
theorem es_all {bs : List Bool} (h : EP φ ρ M (.list (bs.map .bool))) : ES (eCallB bAll (aCons φ aNil)) ρ M (.p (.bool (bs.all id))) := es_b1v h fun d hd => by simp only [bAll, listP, hd, boolsP_map, Option.map_some]
theorem es_any {bs : List Bool} (h : EP φ ρ M (.list (bs.map .bool))) : ES (eCallB bAny (aCons φ aNil)) ρ M (.p (.bool (bs.any id))) := es_b1v h fun d hd => by simp only [bAny, listP, hd, boolsP_map, Option.map_some]
theorem es_repr {x : P} (h : EP φ ρ M x) (hr : reprOk x = true) : ES (eCallB bRepr (aCons φ aNil)) ρ M (.p (.str x.shown)) := es_b1v h fun d hd => by simp only [bRepr, hd, if_pos hr]
theorem en_srt {x : P} {e : Enc α} (o : EncO e) (hd : e.d ≤ 60) {xs : List α} (h : EP φ ρ M x) (hx : x = .tuple (xs.map e.f) ∨ x = .list (xs.map e.f)) (h2 : (∀ a ∈ xs, tup1 (e.f a) = true) ∨ ∀ a ∈ xs, flat1 (e.f a) = true) : EN (eCallB bSrtU (aCons φ aNil)) ρ M (.lst ((srtE e xs).map e.f)) :=
  es_b1 h fun d hd' => srtU_of (by
    have z : seqP d M = some (xs.map e.f) := by rcases hx with hx | hx <;> simp only [seqP, hd', hx]
    simp only [bSrt, z, if_pos (sortOkE o hd h2), sortP_mapE])
/-! slices -/
def OS (l : OFn) (ρ : Env) (M : Mem) (o : Option Int) : Prop := l ρ M = .ok o M
theorem os_none : OS oNone ρ M none := rfl
theorem os_some {i : Int} (h : ES φ ρ M (.p (.int i))) : OS (oSome φ) ρ M (some i) := by
  unfold OS oSome
  rw [h.go]; rfl
def cutE {α : Type} (xs : List α) (lo hi : Option Int) : List α := (xs.drop (HT.sIx xs.length 0 lo)).take (HT.sIx xs.length xs.length hi - HT.sIx xs.length 0 lo)
theorem cutP_map {α : Type} (f : α → P) (xs : List α) (lo hi : Option Int) : cutP (xs.map f) lo hi = (cutE xs lo hi).map f := by
  unfold cutP cutE
  rw [List.length_map, List.map_take, List.map_drop]
theorem dSl_ne {d : D} {x : P} {lo hi : Option Int} (h : pv d M = some x) : dSl lo hi d M = dSl lo hi (.p x) M := by
  cases d with
  | frz ys => cases h
  | p y => cases h; rfl
  | _ => simp only [dSl, h, pv_p]
theorem es_slT (e : Enc α) {xs : List α} {lo hi : OFn} {i j : Option Int} (h : EP φ ρ M (.tuple (xs.map e.f))) (hl : OS lo ρ M i) (hu : OS hi ρ M j) : ES (eSl φ lo hi) ρ M (.p (.tuple ((cutE xs i j).map e.f))) := by
  obtain ⟨d1, a1, a2⟩ := h
  refine ⟨.d (.p (.tuple ((cutE xs i j).map e.f))), ?_, rfl⟩
  unfold eSl
  rw [a1.go, Res.bind_ok, hl, Res.bind_ok, hu, Res.bind_ok, dSl_ne a2, dSl_tuple, cutP_map, ofO_some]
theorem en_slL (e : Enc α) {xs : List α} {lo hi : OFn} {i j : Option Int} (h : EP φ ρ M (.list (xs.map e.f))) (hl : OS lo ρ M i) (hu : OS hi ρ M j) : EN (eSl φ lo hi) ρ M (.lst ((cutE xs i j).map e.f)) := by
  obtain ⟨d1, a1, a2⟩ := h
  unfold EN eSl
  rw [a1.go, Res.bind_ok, hl, Res.bind_ok, hu, Res.bind_ok, dSl_ne a2, dSl_list, cutP_map, ofO_some]
/-! comprehensions -/
/-- what is gone through, item by item -/
def IS (ι : IFn) (ρ : Env) (M : Mem) (xs : List P) : Prop := ∃ st, ι ρ M = .ok st M ∧ ∀ i : Nat, st i M = some xs[i]?
theorem is_tup {xs : List P} (h : ES φ ρ M (.p (.tuple xs))) : IS (iE φ) ρ M xs := ⟨stL xs, by unfold iE; rw [h.go]; rfl, fun _ => rfl⟩
theorem is_lst {xs : List P} (h : ES φ ρ M (.p (.list xs))) : IS (iE φ) ρ M xs := ⟨stL xs, by unfold iE; rw [h.go]; rfl, fun _ => rfl⟩
theorem is_obj {i n : Nat} {xs : List P} (h : ρ[i]? = some (some (.obj n))) (hm : M[n]? = some (.lst xs)) : IS (iE (eVar i)) ρ M xs := ⟨stO n, by
  unfold iE
  rw [(es_var h).go, Res.bind_ok]
  simp only [iVal, hm, ofI], fun j => by simp only [stO, hm]⟩
theorem is_range1 {i : Int} (h : AS αs ρ M [.p (.int i)]) (h1 : -1000000000000 ≤ i) (h2 : i ≤ 1000000000000) : IS (iRg rg1 αs) ρ M (((List.range i.toNat).map Int.ofNat).map eInt.f) := ⟨stR 0 i.toNat, by
  unfold iRg
  rw [h, Res.bind_ok]
  simp only [rg1, small_of h1 h2, if_true, ofI], fun j => by
  unfold stR
  by_cases z : j < i.toNat
  · rw [if_pos z, List.getElem?_map, List.getElem?_map, List.getElem?_range z]; simp
  · rw [if_neg z, List.getElem?_eq_none (by simpa using z)]⟩
theorem is_range2 {i j : Int} (h : AS αs ρ M [.p (.int i), .p (.int j)]) (h1 : -1000000000000 ≤ i) (h2 : i ≤ 1000000000000) (h3 : -1000000000000 ≤ j) (h4 : j ≤ 1000000000000) : IS (iRg rg2 αs) ρ M (((List.range (j - i).toNat).map fun k => i + Int.ofNat k).map eInt.f) := ⟨stR i (j - i).toNat, by
  unfold iRg
  rw [h, Res.bind_ok]
  simp only [rg2, small_of h1 h2, small_of h3 h4, Bool.and_self, if_true, ofI], fun k => by
  unfold stR
  by_cases z : k < (j - i).toNat
  · rw [if_pos z, List.getElem?_map, List.getElem?_map, List.getElem?_range z]; simp
  · rw [if_neg z, List.getElem?_eq_none (by simpa using z)]⟩
theorem en_f1 {α : Type} {xs : List α} {p : α → Bool} {f' : α → P} (h : EN φ ρ M (.lst (((xs.filter p).map fun x => x).map f'))) : EN φ ρ M (.lst ((xs.filter p).map f')) := by
  rw [List.map_id' (xs.filter p)] at h; exact h
theorem en_f2 {α : Type} {xs : List α} {f' : α → P} (h : EN φ ρ M (.lst (((xs.filter fun _ => true).map fun x => x).map f'))) : EN φ ρ M (.lst (xs.map f')) := by
  rw [List.map_id', List.filter_eq_self.mpr fun _ _ => rfl] at h; exact h
theorem en_f3 {α β : Type} {xs : List α} {f : α → β} {f' : β → P} (h : EN φ ρ M (.lst (((xs.filter fun _ => true).map f).map f'))) : EN φ ρ M (.lst ((xs.map f).map f')) := by
  rw [List.filter_eq_self.mpr fun _ _ => rfl] at h; exact h
/-- the item at a place -/
def ixE {α : Type} [Inhabited α] (xs : List α) (i : Int) : α := (atI xs i).getD default
theorem ixE_ok {α : Type} [Inhabited α] {xs : List α} {i : Int} (h : (atI xs i).isSome = true) : atI xs i = some (ixE xs i) := by
  unfold ixE
  cases z : atI xs i with
  | none => rw [z] at h; cases h
  | some y => rfl
theorem es_lenT' {α : Type} {xs : List α} {f : α → P} (h : EP φ ρ M (.tuple (xs.map f))) : ES (eCallB bLen (aCons φ aNil)) ρ M (.p (.int xs.length)) := by
  have := es_lenT h
  rw [List.length_map] at this; exact this
theorem es_lenL' {α : Type} {xs : List α} {f : α → P} (h : EP φ ρ M (.list (xs.map f))) : ES (eCallB bLen (aCons φ aNil)) ρ M (.p (.int xs.length)) := by
  have := es_lenL h
  rw [List.length_map] at this; exact this
theorem tup1_ne {e : Enc α} {xs : List (List α)} (h : ∀ z ∈ xs, z ≠ []) : ∀ a ∈ xs, tup1 ((eTu e).f a) = true := fun a ha => by
  cases a with
  | nil => exact absurd rfl (h _ ha)
  | cons x r => rfl
/-! words of the library: sets, sorted by length -/
theorem leE_eStr : leE eStr = tLe := by
  funext a b
  unfold leE ltE tLe
  rw [← DatumOrd.lt_eq]; rfl
theorem leE_eInt : leE eInt = tLe := by
  funext a b
  unfold leE ltE tLe
  rw [← DatumOrd.lt_eq]; rfl
theorem srtE_eStr (xs : List Str) : srtE eStr xs = srt xs := by unfold srtE srt; rw [leE_eStr]
theorem srtE_eInt (xs : List Int) : srtE eInt xs = srt xs := by unfold srtE srt; rw [leE_eInt]
theorem srtE_mkT (xs : List (List Str)) : (srt (xs.map mkT)).map Datum.toD = (srtE (eTu eStr) xs).map (eTu eStr).f := by
  have : srt (xs.map mkT) = (srtE (eTu eStr) xs).map mkT := by
    unfold srt srtE
    refine (List.map_mergeSort fun a _ b _ => ?_).symm
    show (!ltE (eTu eStr) b a) = !DatumOrd.lt (mkT b) (mkT a)
    rw [← DatumOrd.lt_eq]; rfl
  rw [this, List.map_map]; rfl
theorem ddE_mkT : ∀ xs : List (List Str), dd (xs.map mkT) = (dd xs).map mkT
  | [] => rfl
  | x :: xs => by
    rw [List.map_cons, dd, dd, ddE_mkT xs]
    have : (mkT x ∈ (dd xs).map mkT) ↔ x ∈ dd xs := by
      rw [List.mem_map]
      exact ⟨fun ⟨y, h1, h2⟩ => by injection h2 with h2; exact h2 ▸ h1, fun h => ⟨x, h, rfl⟩⟩
    by_cases z : x ∈ dd xs
    · rw [if_pos z, if_pos (this.mpr z)]
    · rw [if_neg z, if_neg (fun w => z (this.mp w))]; rfl
theorem en_srtSet {x : P} {xs ys : List P} (h : EP φ ρ M x) (hx : x = .tuple xs ∨ x = .list xs) (hs : srtSet xs = some ys) : EN (eSrtSet φ) ρ M (.lst ys) := by
  obtain ⟨d1, a1, a2⟩ := h
  unfold EN eSrtSet
  rw [a1.go, Res.bind_ok]
  have z : seqP d1 M = some xs := by rcases hx with hx | hx <;> simp only [seqP, a2, hx]
  simp only [z, hs]
theorem en_srtSetS {x : P} {xs : List Str} (h : EP φ ρ M x) (hx : x = .tuple (xs.map eStr.f) ∨ x = .list (xs.map eStr.f)) (hl : xs.length < 4000) : EN (eSrtSet φ) ρ M (.lst ((srtE eStr (dd xs)).map eStr.f)) :=
  en_srtSet h hx (by rw [srtE_eStr]; exact srtSet_strs hl)
theorem en_srtSetT {x : P} {xs : List (List Str)} (h : EP φ ρ M x) (hx : x = .tuple (xs.map (eTu eStr).f) ∨ x = .list (xs.map (eTu eStr).f)) (hl : xs.length < 64 ∧ ∀ z ∈ xs, z ≠ []) : EN (eSrtSet φ) ρ M (.lst ((srtE (eTu eStr) (dd xs)).map (eTu eStr).f)) :=
  en_srtSet h hx (by
    cases xs with
    | nil => simp [srtSet, strsP, srtE, srt, dd]
    | cons y ys => rw [← srtE_mkT, ← ddE_mkT]; exact srtSet_tms hl.1 hl.2 (by simp))
theorem en_srtSc2 {xs : List (List Str)} {i j : Nat} (h : ES φ ρ M (.p ((eTu (eTu eStr)).f xs))) (h1 : i < ρ.length) (h2 : j < ρ.length) (hl : xs.flatten.length < 4000) : EN (eSrtSc2 i j φ) ρ M (.lst ((srtE eStr (dd xs.flatten)).map eStr.f)) := by
  unfold EN eSrtSc2
  rw [h.go, Res.bind_ok]
  have z : crewsP (.p ((eTu (eTu eStr)).f xs)) = some xs := tmsP_map xs
  simp only [z]
  rw [if_pos ⟨⟨h1, h2⟩, hl⟩, srtE_eStr]
theorem en_lc {α β : Type} {ι : IFn} {γ : GFn} {vs : List Nat} (xs : List α) (e : α → P) (p : α → Bool) (f : α → β) (e' : β → P) (env : α → Env) (hi : IS ι ρ M (xs.map e)) (hn : xs.length ≤ sizeLine) (hg : ∀ a, a ∈ xs → γ (e a) (wipeE ρ vs) = some (env a))
    (ht : ∀ a, a ∈ xs → TS t (env a) M (p a)) (hs : ∀ a, a ∈ xs → p a = true → ES φ (env a) M (.p (e' (f a)))) : EN (eLc ι γ t φ vs) ρ M (.lst (((xs.filter p).map f).map e')) := by
  obtain ⟨st, h1, h2⟩ := hi
  have key : Ok (eLc ι γ t φ vs ρ M) fun ev M' => ev = .new (.lst (((xs.filter p).map f).map e')) ∧ M' = M := by
    rw [ok_eLc, h1]
    refine lc_pure xs e p (fun a => e' (f a)) hn (fun i => by rw [h2 i, List.getElem?_map]) (fun a ha => ⟨env a, hg a ha, ?_⟩) ?_
    · rw [ht a ha]
      refine ⟨rfl, rfl, fun hp => ?_⟩
      obtain ⟨ev, z1, z2⟩ := hs a ha hp
      rw [z1]
      exact ⟨rfl, z2⟩
    · rw [List.map_map]
      exact ⟨rfl, rfl⟩
  obtain ⟨ev, M', z1, z2, z3⟩ := key.get
  rw [z2, z3] at z1
  exact z1
end
end Cb

set_option Elab.async false
set_option linter.all false
set_option maxRecDepth 100000
/-! Fz, part B: names forgotten, objects let go, lists that change no more. -/
namespace Cb
open PySem PySem.Spec PyProof.Rows L2

def trimE (k : Nat) (ρ : Env) : Env := ρ.map fun x => match x with
  | some (.obj n) => if n < k then some (.obj n) else none
  | x => x
def wpO (k : Nat) (vs : List Nat) : Out → Out
  | .nx ρ => .nx (trimE k (wipeE ρ vs))
  | .bk ρ => .bk (trimE k (wipeE ρ vs))
  | .ct ρ => .ct (trimE k (wipeE ρ vs))
  | .rt e => .rt e
/-- a block, behind which the names vs and the objects made in it are let go -/
def sWp (vs : List Nat) (s : SFn) : SFn := fun ρ M => match s ρ M with
  | .ok (.rt e) M' => .ok (.rt e) M'
  | .ok o M' => .ok (wpO M.length vs o) (M'.take M.length)
  | r => r
/-- the names vs are forgotten first -/
def sPre (vs : List Nat) (s : SFn) : SFn := fun ρ M => s (wipeE ρ vs) M
/-- the object of the name i changes no more -/
def sFr (i : Nat) (s : SFn) : SFn := fun ρ M => match ρ[i]? with
  | some (some (.obj n)) => match M[n]? with
    | some (.lst xs) => s (ρ.set i (some (.p (.list xs)))) (M.set n .dead)
    | some (.dct kvs) => s (ρ.set i (some (.p (.dict kvs)))) (M.set n .dead)
    | _ => .bad
  | _ => .bad
section
variable {K : PySem.W.Frag} {T : Tb} {H H' : Hp} {G : Addr → Prop} {L L' : List Addr} {M M' : Mem} {σ σ' : L2.St} {ρ ρ' : Env}
theorem keeps_takeTo (x : Nxt H L M H' L' M') (hl : L.length = M.length) : Keeps H' (Fbd L' M' G) H' (Fbd L (M'.take M.length) G) := by
  have k := keeps_take (H := H') (G := G) (L := L') (M := M') (k := M.length)
  obtain ⟨R, e⟩ := x.pre
  have : L'.take M.length = L := by rw [e, ← hl, List.take_left']; rfl
  rw [this] at k
  exact k
theorem RD.tkTo (x : Nxt H L M H' L' M') (hl : L.length = M.length) {v : V} {d : D} (r : RD K T H' G L' M' v d) (hd : ∀ n, d = .obj n → n < M.length) : RD K T H' G L (M'.take M.length) v d := by
  have k := keeps_takeTo (G := G) x hl
  cases r with
  | p h => exact .p (h.ext k)
  | obj h =>
    have hn := hd _ rfl
    obtain ⟨R, e⟩ := x.pre
    rw [e, List.getElem?_append_left (by omega)] at h
    exact .obj h
  | fn id => exact .fn id
  | ty n => exact .ty n
  | frz h r => exact .frz (h.ext k) (RpAll.ext k _ _ r)
theorem trim_get {k i : Nat} {d : D} (h : (trimE k ρ)[i]? = some (some d)) : ρ[i]? = some (some d) ∧ ∀ n, d = .obj n → n < k := by
  unfold trimE at h
  rw [List.getElem?_map] at h
  obtain ⟨x, h1, h2⟩ := Option.map_eq_some_iff.mp h
  cases x with
  | none => cases h2
  | some x =>
    cases x with
    | obj n =>
      by_cases hn : n < k
      · simp only [if_pos hn] at h2
        cases h2
        exact ⟨h1, fun m e => by cases e; exact hn⟩
      · simp only [if_neg hn] at h2
        cases h2
    | _ => cases h2; exact ⟨h1, fun m e => by cases e⟩
theorem SR.trim (s : SR K T σ' H' ρ' G L' M') (x : Nxt H L M H' L' M') (hl : L.length = M.length) (vs : List Nat) : SR K T σ' H' (trimE M.length (wipeE ρ' vs)) G L (M'.take M.length) := by
  refine ⟨MR.takeTo x hl s.mr, ?_, fun i d h => ?_⟩
  · unfold trimE
    rw [List.length_map, wipeE_length]; exact s.len
  · obtain ⟨h1, h2⟩ := trim_get h
    obtain ⟨v, e, r⟩ := s.env i d (wipeE_get h1).1
    exact ⟨v, e, r.tkTo x hl h2⟩
theorem SR.wipeK (s : SR K T σ H ρ G L M) (vs : List Nat) : SR K T σ H (wipeE ρ vs) G L M :=
  ⟨s.mr, by rw [wipeE_length]; exact s.len, fun i d h => s.env i d (wipeE_get h).1⟩
theorem SR.freeze (s : SR K T σ H ρ G L M) {i n : Nat} {o : MObj} (h : ρ[i]? = some (some (.obj n))) (hm : M[n]? = some o) (ha : o.alive = true) : SR K T σ H (ρ.set i (some (.p o.toP))) G L (M.set n .dead) := by
  have s2 : SR K T σ H ρ G L (M.set n .dead) := s.ext Nxt.freeze (MR.freeze s.mr)
  refine ⟨s2.mr, by simpa using s2.len, fun j d h2 => ?_⟩
  by_cases e : i = j
  · subst e
    have hi := (List.getElem?_eq_some_iff.mp h).1
    rw [List.getElem?_set_self hi] at h2
    cases h2
    obtain ⟨v, e1, r⟩ := s.env i _ h
    cases r with
    | obj hL => exact ⟨_, e1, .p (MR.frozen s.mr hL hm ha)⟩
  · rw [List.getElem?_set_ne e] at h2
    exact s2.env j d h2
end
section
variable {X : Cx} {T : Tb} {W : WX} {U : List Nat} {φ : SFn} {st : Stmt} {sts : List Stmt}
theorem wp_go {D : Ends} {σ : L2.St} {H : Hp} {vs : List Nat} (h : tS X T W U (sWp vs φ) D σ H) : tS X T W U φ D σ H := by
  obtain ⟨ρ, G, L, M, sr, hp⟩ := h
  refine ⟨ρ, G, L, M, sr, ?_⟩
  unfold sWp at hp
  generalize φ ρ M = r at hp ⊢
  cases r with
  | ok o M' =>
    cases o with
    | nx ρ' => exact fun σ' H' L' x s2 a => hp σ' H' L (x.take sr.mr.len) (s2.trim x sr.mr.len vs) a
    | bk ρ' => exact fun σ' H' L' x s2 a => hp σ' H' L (x.take sr.mr.len) (s2.trim x sr.mr.len vs) a
    | ct ρ' => exact fun σ' H' L' x s2 a => hp σ' H' L (x.take sr.mr.len) (s2.trim x sr.mr.len vs) a
    | rt e => exact hp
  | err x M' => exact hp
  | bad => exact hp
theorem bd_wp (vs : List Nat) (h : BD X T W U φ sts) : BD X T W U (sWp vs φ) sts := PSs.imp' h fun D σ H h => wp_go h
theorem sd_pre (vs : List Nat) (h : SD X T W U φ st) : SD X T W U (sPre vs φ) st := PS.imp' h fun D σ H ⟨ρ, G, L, M, sr, hp⟩ => ⟨_, G, L, M, sr.wipeK vs, hp⟩
theorem bd_pre (vs : List Nat) (h : BD X T W U φ sts) : BD X T W U (sPre vs φ) sts := PSs.imp' h fun D σ H ⟨ρ, G, L, M, sr, hp⟩ => ⟨_, G, L, M, sr.wipeK vs, hp⟩
theorem bd_fr (i : Nat) (h : BD X T W U φ sts) : BD X T W U (sFr i φ) sts := PSs.imp' h fun D σ H ⟨ρ, G, L, M, sr, hp⟩ => by
  unfold sFr at hp
  split at hp
  · rename_i n e1
    split at hp
    · rename_i xs e2
      exact ⟨_, G, L, _, sr.freeze e1 e2 rfl, PostS.start Nxt.freeze Agr.refl hp⟩
    · rename_i xs e2
      exact ⟨_, G, L, _, sr.freeze e1 e2 rfl, PostS.start Nxt.freeze Agr.refl hp⟩
    · exact hp.elim
  · exact hp.elim
end

/-! ### what a block gives -/
section
variable {τ R : Type} {ρ ρ1 : Env} {M M1 M0 : Mem} {s s' r : SFn} {φ ψ : PFn} {t : TFn} {Q : Out → Mem → Prop}
def SS (s : SFn) (ρ : Env) (M : Mem) (ρ1 : Env) (M1 : Mem) : Prop := s ρ M = .ok (.nx ρ1) M1
theorem ss_nx : SS sNx ρ M ρ M := rfl
theorem ss_seq {ρ2 : Env} {M2 : Mem} (h : SS s ρ M ρ1 M1) (h2 : SS r ρ1 M1 ρ2 M2) : SS (sSeq s r) ρ M ρ2 M2 := by
  unfold SS sSeq
  rw [h, thenS_nx]; exact h2
theorem ss_set {i : Nat} {d : D} (h : ES φ ρ M d) : SS (sSet i φ) ρ M (ρ.set i (some d)) M := by
  unfold SS sSet
  rw [h.go]; rfl
theorem ss_new {i k : Nat} {o : MObj} {R : Mem} (hk : M.length = k) (h : EN φ ρ (M ++ R) o) : SS (sSet i (eAl φ)) ρ (M ++ R) (ρ.set i (some (.obj (k + R.length)))) (M ++ (R ++ [o])) := by
  subst hk
  unfold SS sSet eAl
  rw [h, ← List.append_assoc, ← List.length_append]; rfl
theorem ss_drop {d : D} (h : ES φ ρ M d) : SS (sDrop φ) ρ M ρ M := by
  unfold SS sDrop
  rw [h.go]; rfl
theorem obj_at {M R : Mem} {j k : Nat} (hk : M.length = k) : (M ++ R)[k + j]? = R[j]? := by subst hk; rw [List.getElem?_append_right (by omega)]; congr 1; omega
theorem obj_set {M R : Mem} {j k : Nat} {o : MObj} (hk : M.length = k) : (M ++ R).set (k + j) o = M ++ R.set j o := by
  subst hk
  rw [List.set_append_right _ _ (by omega)]; congr 2; omega
theorem ss_app {i j k : Nat} {R : Mem} {α : Type} [DecidableEq α] (hk : M.length = k) (e : Enc α) {xs : List α} {y : α} (hv : ρ[i]? = some (some (.obj (k + j)))) (hr : R[j]? = some (.lst (xs.map e.f))) (hy : ES φ ρ (M ++ R) (.p (e.f y))) (hl : xs.length < sizeLine) :
    SS (sDrop (eMth gmAppend (eVar i) (aCons φ aNil))) ρ (M ++ R) ρ (M ++ R.set j (.lst ((xs ++ [y]).map e.f))) := by
  have e1 : (M ++ R)[k + j]? = some (.lst (xs.map e.f)) := (obj_at hk).trans hr
  unfold SS sDrop eMth
  rw [(es_var hv).go, Res.bind_ok]
  simp only [kind_obj e1, gm_append]
  rw [show aCons φ aNil ρ (M ++ R) = .ok [.p (e.f y)] (M ++ R) from as_cons hy as_nil, Res.bind_ok, mapp e1 (by rw [List.length_map]; exact hl), obj_set hk, List.map_append]
  rfl
theorem ss_ext {i j k : Nat} {R : Mem} {α : Type} [DecidableEq α] (hk : M.length = k) (e : Enc α) {xs ys : List α} (hv : ρ[i]? = some (some (.obj (k + j)))) (hr : R[j]? = some (.lst (xs.map e.f))) (hy : ES φ ρ (M ++ R) (.p (.list (ys.map e.f)))) (hl : xs.length + ys.length ≤ sizeLine) :
    SS (sDrop (eMth gmExtend (eVar i) (aCons φ aNil))) ρ (M ++ R) ρ (M ++ R.set j (.lst ((xs ++ ys).map e.f))) := by
  have e1 : (M ++ R)[k + j]? = some (.lst (xs.map e.f)) := (obj_at hk).trans hr
  unfold SS sDrop eMth
  rw [(es_var hv).go, Res.bind_ok]
  simp only [kind_obj e1, gm_extend]
  rw [show aCons φ aNil ρ (M ++ R) = .ok [.p (.list (ys.map e.f))] (M ++ R) from as_cons hy as_nil, Res.bind_ok, mext e1 (by rw [List.length_map, List.length_map]; exact hl), obj_set hk, List.map_append]
  rfl
theorem ss_pre {vs : List Nat} (h : SS s (wipeE ρ vs) M ρ1 M1) : SS (sPre vs s) ρ M ρ1 M1 := h
theorem ss_if (env : τ → Env) (mem : τ → Mem) {b : Bool} {v1 v2 : τ} (h : TS t ρ M b) (h1 : b = true → SS s ρ M (env v1) (mem v1)) (h2 : b = false → SS r ρ M (env v2) (mem v2)) : SS (sIf t s r) ρ M (env (if b = true then v1 else v2)) (mem (if b = true then v1 else v2)) := by
  unfold SS sIf
  rw [h, Res.bind_ok]
  cases b with
  | true => exact h1 rfl
  | false => exact h2 rfl
/-! .. that may end -/
theorem ok_ss {ρ1 : Env} (h : SS s ρ M ρ1 M1) (h2 : Q (.nx ρ1) M1) : Ok (s ρ M) Q := by rw [h]; exact h2
theorem ok_seqS (h : SS s ρ M ρ1 M1) (h2 : Ok (r ρ1 M1) Q) : Ok (sSeq s r ρ M) Q := by
  unfold sSeq
  rw [h, thenS_nx]; exact h2
theorem ok_nxSeq (h : Ok (r ρ M) Q) : Ok (sSeq sNx r ρ M) Q := ok_seqS ss_nx h
theorem ok_assoc {a b c : SFn} (h : Ok (sSeq a (sSeq b c) ρ M) Q) : Ok (sSeq (sSeq a b) c ρ M) Q := by
  have : sSeq (sSeq a b) c ρ M = sSeq a (sSeq b c) ρ M := by
    unfold sSeq thenS
    cases a ρ M with
    | ok o M' => cases o <;> rfl
    | err _ _ => rfl
    | bad => rfl
  rw [this]; exact h
theorem ok_retSeq (h : Ok (sRet φ ρ M) Q) : Ok (sSeq (sRet φ) r ρ M) Q := by
  rw [ok_sSeq]
  rw [ok_sRet] at h ⊢
  exact h
theorem ok_retNSeq (h : Ok (sRetN ρ M) Q) : Ok (sSeq sRetN r ρ M) Q := by
  rw [ok_sSeq]; exact h
theorem ok_ctSeq (h : Ok (sCt ρ M) Q) : Ok (sSeq sCt r ρ M) Q := by
  rw [ok_sSeq]; exact h
theorem ok_bkSeq (h : Ok (sBk ρ M) Q) : Ok (sSeq sBk r ρ M) Q := by
  rw [ok_sSeq]; exact h
theorem ok_ifS {Q : τ → Out → Mem → Prop} {b : Bool} {o1 o2 : τ} (h : TS t ρ M b) (h1 : b = true → Ok (s ρ M) (Q o1)) (h2 : b = false → Ok (r ρ M) (Q o2)) : Ok (sIf t s r ρ M) (Q (if b = true then o1 else o2)) := by
  unfold sIf
  rw [h, Res.bind_ok]
  cases b with
  | true => exact h1 rfl
  | false => exact h2 rfl
theorem ok_ifSeq {Q : τ → Out → Mem → Prop} {b : Bool} {o1 o2 : τ} (h : TS t ρ M b) (h1 : b = true → Ok (sSeq s r ρ M) (Q o1)) (h2 : b = false → Ok (sSeq s' r ρ M) (Q o2)) : Ok (sSeq (sIf t s s') r ρ M) (Q (if b = true then o1 else o2)) := by
  have : sSeq (sIf t s s') r ρ M = if b = true then sSeq s r ρ M else sSeq s' r ρ M := by
    unfold sSeq sIf
    rw [h, Res.bind_ok]
    cases b <;> rfl
  rw [this]
  cases b with
  | true => exact h1 rfl
  | false => exact h2 rfl
theorem ok_pre {vs : List Nat} (h : Ok (s (wipeE ρ vs) M) Q) : Ok (sPre vs s ρ M) Q := h
theorem ok_preSeq {vs : List Nat} (h : Ok (sSeq s r (wipeE ρ vs) M) Q) : Ok (sSeq (sPre vs s) r ρ M) Q := h
theorem ok_frL {i j k : Nat} {R : Mem} (hk : M.length = k) {xs : List P} (hv : ρ[i]? = some (some (.obj (k + j)))) (hr : R[j]? = some (.lst xs)) (h : Ok (s (ρ.set i (some (.p (.list xs)))) (M ++ R.set j .dead)) Q) : Ok (sFr i s ρ (M ++ R)) Q := by
  have e1 : (M ++ R)[k + j]? = some (.lst xs) := (obj_at hk).trans hr
  unfold sFr
  rw [hv]
  simp only [e1]
  rw [obj_set hk]; exact h
theorem ok_frD {i j k : Nat} {R : Mem} (hk : M.length = k) {xs : List (P × P)} (hv : ρ[i]? = some (some (.obj (k + j)))) (hr : R[j]? = some (.dct xs)) (h : Ok (s (ρ.set i (some (.p (.dict xs)))) (M ++ R.set j .dead)) Q) : Ok (sFr i s ρ (M ++ R)) Q := by
  have e1 : (M ++ R)[k + j]? = some (.dct xs) := (obj_at hk).trans hr
  unfold sFr
  rw [hv]
  simp only [e1]
  rw [obj_set hk]; exact h
theorem ok_lastS {ρ1 : Env} (h : SS s ρ M ρ1 M1) (h2 : Ok (sNx ρ1 M1) Q) : Ok (s ρ M) Q := by rw [h]; exact h2
theorem ok_ifNoSeq {b : Bool} (h : TS t ρ M b) (hb : b = false) (h2 : Ok (r ρ M) Q) : Ok (sSeq (sIf t s sNx) r ρ M) Q := by
  subst hb
  have : sSeq (sIf t s sNx) r ρ M = r ρ M := by
    unfold sSeq sIf
    rw [h, Res.bind_ok]; rfl
  rw [this]; exact h2
theorem ok_ifNo {b : Bool} (h : TS t ρ M b) (hb : b = false) (h2 : Ok (sNx ρ M) Q) : Ok (sIf t s sNx ρ M) Q := by
  subst hb
  unfold sIf
  rw [h, Res.bind_ok]; exact h2
theorem ok_frLSeq {i j k : Nat} {R : Mem} (hk : M.length = k) {xs : List P} (hv : ρ[i]? = some (some (.obj (k + j)))) (hr : R[j]? = some (.lst xs)) (h : Ok (sSeq s r (ρ.set i (some (.p (.list xs)))) (M ++ R.set j .dead)) Q) : Ok (sSeq (sFr i s) r ρ (M ++ R)) Q := by
  have e1 : (M ++ R)[k + j]? = some (.lst xs) := (obj_at hk).trans hr
  have : sSeq (sFr i s) r ρ (M ++ R) = sSeq s r (ρ.set i (some (.p (.list xs)))) (M ++ R.set j .dead) := by
    unfold sSeq sFr
    rw [hv]
    simp only [e1]
    rw [obj_set hk]
  rw [this]; exact h
/-! the end of a def -/
def KDf (k : Nat) (mem : R → Mem) (T : R → Ev → Prop) (r : R) : Out → Mem → Prop := fun o M' => ∃ e, fin k (.ok o M') = .ok e (mem r) ∧ T r e
def TDf (f : R → P) (r : R) : Ev → Prop := fun e => e.stl = .p (f r)
def TNf (f : R → MObj) (r : R) : Ev → Prop := fun e => e = .new (f r)
theorem fin_stl {n : Nat} {e : Ev} {x : P} {M : Mem} (h : e.stl = .p x) : fin n (.ok (.rt e) M) = .ok e (M.take n) := by
  cases e with
  | d d => cases h; rfl
  | new o => rfl
theorem take_k {M0 Rs : Mem} {k : Nat} (hk : M0.length = k) : (M0 ++ Rs).take k = M0 := by subst hk; exact take_len ..
theorem ok_retE {Rs : Mem} {k : Nat} {mem : R → Mem} {f : R → P} {v : R} (hk : M0.length = k) (hm : M0 = mem v) (h : ES φ ρ (M0 ++ Rs) (.p (f v))) : Ok (sRet φ ρ (M0 ++ Rs)) (KDf k mem (TDf f) v) := by
  obtain ⟨e, h1, h2⟩ := h
  rw [ok_sRet, h1]
  exact ⟨e, by rw [fin_stl h2, take_k hk, hm], h2⟩
theorem ok_retN {Rs : Mem} {k : Nat} {mem : R → Mem} {f : R → MObj} {v : R} (hk : M0.length = k) (hm : M0 = mem v) (h : EN φ ρ (M0 ++ Rs) (f v)) : Ok (sRet φ ρ (M0 ++ Rs)) (KDf k mem (TNf f) v) := by
  rw [ok_sRet, h]
  exact ⟨_, by rw [fin_new, take_k hk, hm], rfl⟩
theorem fin_obj {n j : Nat} {M : Mem} {o : MObj} (hj : ¬ j < n) (h : M[j]? = some o) (ha : o.alive = true) : fin n (.ok (.rt (.d (.obj j))) M) = .ok (.new o) (M.take n) := by
  cases o with
  | dead => cases ha
  | lst xs => simp only [fin, if_neg hj, h]
  | dct xs => simp only [fin, if_neg hj, h]
theorem ok_retO {Rs : Mem} {i j k : Nat} {mem : R → Mem} {f : R → MObj} {v : R} (hk : M0.length = k) (hm : M0 = mem v) (hv : ρ[i]? = some (some (.obj (k + j)))) (hr : Rs[j]? = some (f v)) (ha : (f v).alive = true) : Ok (sRet (eVar i) ρ (M0 ++ Rs)) (KDf k mem (TNf f) v) := by
  rw [ok_sRet, ok_eVar]
  refine ⟨_, hv, _, ?_, rfl⟩
  rw [fin_obj (by omega) ((obj_at hk).trans hr) ha, take_k hk, hm]
theorem ok_retNone {Rs : Mem} {k : Nat} {mem : R → Mem} {f : R → P} {v : R} (hk : M0.length = k) (hm : M0 = mem v) (h : f v = .none) : Ok (sRetN ρ (M0 ++ Rs)) (KDf k mem (TDf f) v) := by
  rw [ok_sRetN]
  exact ⟨_, by rw [fin_stl (x := .none) rfl, take_k hk, hm], by unfold TDf; rw [h]; rfl⟩
theorem ok_endNone {Rs : Mem} {k : Nat} {mem : R → Mem} {f : R → P} {v : R} (hk : M0.length = k) (hm : M0 = mem v) (h : f v = .none) : Ok (sNx ρ (M0 ++ Rs)) (KDf k mem (TDf f) v) := by
  rw [ok_sNx]
  refine ⟨.d (.p .none), ?_, by unfold TDf; rw [h]; rfl⟩
  show Res.ok (Ev.d (.p .none)) ((M0 ++ Rs).take k) = _
  rw [take_k hk, hm]
/-- what a def gives, and the memory behind it -/
def FR1 (fs : FS) (ds : List D) (M : Mem) (d : D) (M' : Mem) : Prop := ∃ e, fs ds M = .ok e M' ∧ e.stl = d
def FRN (fs : FS) (ds : List D) (M : Mem) (o : MObj) (M' : Mem) : Prop := fs ds M = .ok (.new o) M'
theorem fr_of {n k : Nat} {s : SFn} {ds : List D} {mem : R → Mem} {f : R → P} {v : R} {ρ : Env} (hρ : startE n ds = ρ) (hk : M.length = k) (h : Ok (s ρ (M ++ [])) (KDf k mem (TDf f) v)) : FR1 (defF n s) ds M (.p (f v)) (mem v) := by
  subst hρ
  subst hk
  rw [List.append_nil] at h
  unfold FR1 defF
  cases z : s (startE n ds) M with
  | ok o M' => rw [z] at h; obtain ⟨e, h1, h2⟩ := h; exact ⟨e, h1, h2⟩
  | err x M' => rw [z] at h; exact h.elim
  | bad => rw [z] at h; exact h.elim
theorem frn_of {n k : Nat} {s : SFn} {ds : List D} {mem : R → Mem} {f : R → MObj} {v : R} {ρ : Env} (hρ : startE n ds = ρ) (hk : M.length = k) (h : Ok (s ρ (M ++ [])) (KDf k mem (TNf f) v)) : FRN (defF n s) ds M (f v) (mem v) := by
  subst hρ
  subst hk
  rw [List.append_nil] at h
  unfold FRN defF
  cases z : s (startE n ds) M with
  | ok o M' => rw [z] at h; obtain ⟨e, h1, h2⟩ := h; cases h2; exact h1
  | err x M' => rw [z] at h; exact h.elim
  | bad => rw [z] at h; exact h.elim
theorem fs_of {n : Nat} {s : SFn} {ds : List D} {f : R → P} {v : R} {ρ : Env} (hρ : startE n ds = ρ) (h : Ok (s ρ (M ++ [])) (KDf M.length (fun _ => M) (TDf f) v)) : FS1 (defF n s) ds M (.p (f v)) := fr_of hρ rfl h
theorem fn_of {n : Nat} {s : SFn} {ds : List D} {f : R → MObj} {v : R} {ρ : Env} (hρ : startE n ds = ρ) (h : Ok (s ρ (M ++ [])) (KDf M.length (fun _ => M) (TNf f) v)) : FN1 (defF n s) ds M (f v) := frn_of hρ rfl h
theorem fs_star {n : Nat} {fs : FS} {ds : List D} {xs : List P} {d : D} (h : FS1 fs (ds ++ [.p (.tuple xs)]) M d) (hn : ds.length = n) (hz : xs.length ≤ sizeLine) : FS1 (starF n fs) (ds ++ xs.map .p) M d := by
  subst hn
  unfold FS1 starF
  have e1 : (ds ++ xs.map D.p).drop ds.length = xs.map D.p := List.drop_left
  have e2 : (ds ++ xs.map D.p).take ds.length = ds := List.take_left
  rw [e1, purs_ps]
  simp only
  rw [if_pos ⟨by simp, hz⟩, e2]
  exact h
end

/-! ### loops -/
section
variable {σ α R τ : Type}
inductive LS (σ R : Type) where
  | nx (s : σ)
  | bk (s : σ)
  | rt (r : R)
def LS.sel (onx obk : σ → τ) (ort : R → τ) : LS σ R → τ
  | .nx s => onx s
  | .bk s => obk s
  | .rt r => ort r
@[reducible] def LS.sl (onx : σ → τ) (ort : R → τ) : LS σ R → τ := LS.sel onx onx ort
def forR (f : σ → α → LS σ R) : List α → σ → LS σ R
  | [], s => .nx s
  | x :: xs, s => match f s x with
    | .nx s' => forR f xs s'
    | .bk s' => .bk s'
    | .rt r => .rt r
/-- what every turn asks, as far as the turns are reached -/
def preR (f : σ → α → LS σ R) (pre : σ → α → Prop) : List α → σ → Prop
  | [], _ => True
  | x :: xs, s => pre s x ∧ match f s x with
    | .nx s' => preR f pre xs s'
    | _ => True
def preF (f : σ → α → σ) (pre : σ → α → Prop) : List α → σ → Prop
  | [], _ => True
  | x :: xs, s => pre s x ∧ preF f pre xs (f s x)
def KL (env : σ → Env) (mem : σ → Mem) (K : R → Out → Mem → Prop) : LS σ R → Out → Mem → Prop
  | .nx s, o, M' => (o = .nx (env s) ∨ o = .ct (env s)) ∧ M' = mem s
  | .bk s, o, M' => o = .bk (env s) ∧ M' = mem s
  | .rt r, o, M' => (∃ e, o = .rt e) ∧ K r o M'
def KF (env : σ → Env) (mem : σ → Mem) (K : R → Out → Mem → Prop) : LS σ R → Out → Mem → Prop
  | .nx s, o, M' => o = .nx (env s) ∧ M' = mem s
  | .bk s, o, M' => o = .nx (env s) ∧ M' = mem s
  | .rt r, o, M' => (∃ e, o = .rt e) ∧ K r o M'
/-- the end of a turn, names and objects let go -/
def KW (n : Nat) (vs : List Nat) (Q : Out → Mem → Prop) : Out → Mem → Prop := fun o M' => match o with
  | .rt e => Q (.rt e) M'
  | o => Q (wpO n vs o) (M'.take n)
theorem ok_wp {vs : List Nat} {s : SFn} {ρ : Env} {M : Mem} {Q : Out → Mem → Prop} (h : Ok (s ρ M) (KW M.length vs Q)) : Ok (sWp vs s ρ M) Q := by
  unfold sWp
  cases z : s ρ M with
  | ok o M' => rw [z] at h; cases o <;> exact h
  | err x M' => rw [z] at h; exact h
  | bad => rw [z] at h; exact h
theorem for_all {st : Stp} {γ : GFn} {body els : SFn} (xs : List α) (e : α → P) (f : σ → α → LS σ R) (env : σ → Env) (mem : σ → Mem) (pre : σ → α → Prop) (K : R → Out → Mem → Prop) {Q : Out → Mem → Prop}
    (hst : ∀ (s : σ) (i : Nat), st i (mem s) = some ((xs[i]?).map e)) (hn : xs.length ≤ sizeLine)
    (hb : ∀ s x, x ∈ xs → pre s x → ∃ ρ1, γ (e x) (env s) = some ρ1 ∧ Ok (body ρ1 (mem s)) (KL env mem K (f s x))) (s0 : σ) (hp : preR f pre xs s0)
    (hnx : ∀ s, forR f xs s0 = .nx s → Ok (els (env s) (mem s)) Q) (hbk : ∀ s, forR f xs s0 = .bk s → Q (.nx (env s)) (mem s)) (hrt : ∀ r e M', forR f xs s0 = .rt r → K r (.rt e) M' → Q (.rt e) M') : Ok (forL st γ body els FUEL 0 (env s0) (mem s0)) Q := by
  have key : ∀ (fu i : Nat) (ys : List α) (s : σ), xs = xs.take i ++ ys → i + ys.length = xs.length → ys.length < fu → preR f pre ys s → forR f xs s0 = forR f ys s → Ok (forL st γ body els fu i (env s) (mem s)) Q := by
    intro fu
    induction fu with
    | zero => intro i ys s _ _ h; omega
    | succ fu ih =>
      intro i ys s hx hl hf hpr hfo
      unfold forL
      rw [hst s i]
      cases ys with
      | nil =>
        have : xs[i]? = none := List.getElem?_eq_none (by simp at hl; omega)
        rw [this]
        exact hnx s hfo
      | cons x ys =>
        have hi : xs[i]? = some x := by
          rw [hx, List.getElem?_append_right (by rw [List.length_take]; omega), List.length_take]
          have : i - min i xs.length = 0 := by omega
          rw [this]; rfl
        rw [hi]
        simp only [Option.map_some]
        obtain ⟨ρ1, g1, hb1⟩ := hb s x (List.mem_of_getElem? hi) hpr.1
        rw [g1]
        simp only
        rw [Ok_bind]
        refine hb1.mono fun o M' hk => ?_
        have hnext : xs = xs.take (i + 1) ++ ys := by
          rw [List.take_add_one, hi]
          simpa using hx
        have hl2 : i + 1 + ys.length = xs.length := by simp at hl; omega
        have hf2 : ys.length < fu := by simp at hf; omega
        have hpr2 := hpr.2
        have hfo : forR f xs s0 = match f s x with
          | .nx s' => forR f ys s'
          | .bk s' => .bk s'
          | .rt r => .rt r := hfo
        cases z : f s x with
        | nx s' =>
          rw [z] at hk hpr2 hfo
          obtain ⟨h1, h2⟩ := hk
          subst h2
          rcases h1 with h1 | h1 <;> subst h1 <;> exact ih (i + 1) ys s' hnext hl2 hf2 hpr2 hfo
        | bk s' =>
          rw [z] at hk hfo
          obtain ⟨h1, h2⟩ := hk
          subst h1
          subst h2
          exact hbk s' hfo
        | rt r =>
          rw [z] at hk hfo
          obtain ⟨⟨e', h1⟩, h2⟩ := hk
          subst h1
          exact hrt r e' M' hfo h2
  exact key FUEL 0 xs s0 (by simp) (by simp) (by rw [sizeLine_eq] at hn; rw [FUEL_eq]; omega) hp rfl
theorem forR_fold (f : σ → α → σ) : ∀ (xs : List α) (s : σ), forR (R := R) (fun s x => .nx (f s x)) xs s = .nx (xs.foldl f s)
  | [], _ => rfl
  | x :: xs, s => forR_fold f xs (f s x)
theorem preR_fold (f : σ → α → σ) (pre : σ → α → Prop) : ∀ (xs : List α) (s : σ), preF f pre xs s → preR (R := R) (fun s x => .nx (f s x)) pre xs s
  | [], _, _ => trivial
  | x :: xs, s, h => ⟨h.1, preR_fold f pre xs (f s x) h.2⟩
theorem preF_inv {f : σ → α → σ} {pre : σ → α → Prop} (I : Nat → σ → Prop) : ∀ (xs : List α) (n : Nat) (s : σ), I n s → (∀ m s x, x ∈ xs → n ≤ m → m < n + xs.length → I m s → pre s x ∧ I (m + 1) (f s x)) → preF f pre xs s
  | [], _, _, _, _ => trivial
  | x :: xs, n, s, h, hs => ⟨(hs n s x List.mem_cons_self (Nat.le_refl _) (by simp) h).1, preF_inv I xs (n + 1) _ (hs n s x List.mem_cons_self (Nat.le_refl _) (by simp) h).2 fun m s y hy h1 h2 h3 => hs m s y (List.mem_cons_of_mem _ hy) (by omega) (by simp at h2 ⊢; omega) h3⟩
theorem preR_inv {f : σ → α → LS σ R} {pre : σ → α → Prop} (I : Nat → σ → Prop) : ∀ (xs : List α) (n : Nat) (s : σ), I n s → (∀ m s x, x ∈ xs → n ≤ m → m < n + xs.length → I m s → pre s x ∧ ∀ s', f s x = .nx s' → I (m + 1) s') → preR f pre xs s
  | [], _, _, _, _ => trivial
  | x :: xs, n, s, h, hs => by
    obtain ⟨h1, h2⟩ := hs n s x List.mem_cons_self (Nat.le_refl _) (by simp) h
    refine ⟨h1, ?_⟩
    split
    · rename_i s' e
      exact preR_inv I xs (n + 1) s' (h2 s' e) fun m s y hy h1 h2 h3 => hs m s y (List.mem_cons_of_mem _ hy) (by omega) (by simp at h2 ⊢; omega) h3
    · trivial
/-- what is gone through, whatever the loop's state -/
def IL (ι : IFn) (ρ : Env) (M : Mem) (mem : σ → Mem) (xs : List P) : Prop := ∃ st, ι ρ M = .ok st M ∧ ∀ (s : σ) (i : Nat), st i (mem s) = some xs[i]?
theorem il_tup {φ : PFn} {ρ : Env} {M : Mem} {mem : σ → Mem} {xs : List P} (h : ES φ ρ M (.p (.tuple xs))) : IL (iE φ) ρ M mem xs := ⟨stL xs, by unfold iE; rw [h.go]; rfl, fun _ _ => rfl⟩
theorem il_lst {φ : PFn} {ρ : Env} {M : Mem} {mem : σ → Mem} {xs : List P} (h : ES φ ρ M (.p (.list xs))) : IL (iE φ) ρ M mem xs := ⟨stL xs, by unfold iE; rw [h.go]; rfl, fun _ _ => rfl⟩
theorem il_range1 {αs : AFn} {ρ : Env} {M : Mem} {mem : σ → Mem} {i : Int} (h : AS αs ρ M [.p (.int i)]) (h1 : -1000000000000 ≤ i) (h2 : i ≤ 1000000000000) : IL (iRg rg1 αs) ρ M mem (((List.range i.toNat).map Int.ofNat).map eInt.f) := ⟨stR 0 i.toNat, by
  unfold iRg
  rw [h, Res.bind_ok]
  simp only [rg1, small_of h1 h2, if_true, ofI], fun s j => by
  unfold stR
  by_cases z : j < i.toNat
  · rw [if_pos z, List.getElem?_map, List.getElem?_map, List.getElem?_range z]; simp
  · rw [if_neg z, List.getElem?_eq_none (by simpa using z)]⟩
variable {ι : IFn} {γ : GFn} {body els rest : SFn} {ρ : Env} {M : Mem}
/-- a loop that only goes on -/
theorem ss_for (xs : List α) (e : α → P) (f : σ → α → σ) (env : σ → Env) (mem : σ → Mem) (pre : σ → α → Prop) (s0 : σ) (hi : IL ι ρ M mem (xs.map e)) (h0 : ρ = env s0) (hm : M = mem s0) (hn : xs.length ≤ sizeLine)
    (hb : ∀ s x, x ∈ xs → pre s x → ∃ ρ1, γ (e x) (env s) = some ρ1 ∧ Ok (body ρ1 (mem s)) (KL env mem (fun (_ : Empty) _ _ => False) (.nx (f s x)))) (hp : preF f pre xs s0) : SS (sFor ι γ body sNx) ρ M (env (xs.foldl f s0)) (mem (xs.foldl f s0)) := by
  obtain ⟨st, h1, h2⟩ := hi
  have key : Ok (sFor ι γ body sNx ρ M) fun o M' => o = .nx (env (xs.foldl f s0)) ∧ M' = mem (xs.foldl f s0) := by
    rw [ok_sFor, h1, Ok_ok, h0, hm]
    refine for_all xs e (fun s x => .nx (f s x)) env mem pre (fun (_ : Empty) _ _ => False) (fun s i => by rw [h2 s i, List.getElem?_map]) hn hb s0 (preR_fold f pre xs s0 hp) (fun s h => ?_) (fun s h => ?_) fun r => r.elim
    · rw [forR_fold] at h
      cases h
      exact ⟨rfl, rfl⟩
    · rw [forR_fold] at h; cases h
  obtain ⟨o, M', z1, z2, z3⟩ := key.get
  rw [z2, z3] at z1
  exact z1
/-- a loop, and what follows -/
theorem ok_forSeq {Q : τ → Out → Mem → Prop} (xs : List α) (e : α → P) (f : σ → α → LS σ R) (env : σ → Env) (mem : σ → Mem) (pre : σ → α → Prop) (K : R → Out → Mem → Prop) (s0 : σ) (onx : σ → τ) (ort : R → τ) (hi : IL ι ρ M mem (xs.map e)) (h0 : ρ = env s0) (hm : M = mem s0) (hn : xs.length ≤ sizeLine)
    (hb : ∀ s x, x ∈ xs → pre s x → ∃ ρ1, γ (e x) (env s) = some ρ1 ∧ Ok (body ρ1 (mem s)) (KL env mem K (f s x))) (hp : preR f pre xs s0)
    (hnx : ∀ s, forR f xs s0 = .nx s ∨ forR f xs s0 = .bk s → Ok (rest (env s) (mem s)) (Q (onx s))) (hrt : ∀ r e M', K r (.rt e) M' → Q (ort r) (.rt e) M') :
    Ok (sSeq (sFor ι γ body sNx) rest ρ M) (Q (LS.sel onx onx ort (forR f xs s0))) := by
  obtain ⟨st, h1, h2⟩ := hi
  rw [ok_sSeq, ok_sFor, h1, Ok_ok, h0, hm]
  refine for_all xs e f env mem pre K (fun s i => by rw [h2 s i, List.getElem?_map]) hn hb s0 hp (fun s h => ?_) (fun s h => ?_) fun r e M' h hk => ?_
  · rw [h]
    exact hnx s (.inl h)
  · rw [h]
    exact hnx s (.inr h)
  · rw [h]
    exact hrt r e M' hk
/-- .. with an else -/
theorem ok_forElse {Q : τ → Out → Mem → Prop} (xs : List α) (e : α → P) (f : σ → α → LS σ R) (env : σ → Env) (mem : σ → Mem) (pre : σ → α → Prop) (K : R → Out → Mem → Prop) (s0 : σ) (onx obk : σ → τ) (ort : R → τ) (hi : IL ι ρ M mem (xs.map e)) (h0 : ρ = env s0) (hm : M = mem s0) (hn : xs.length ≤ sizeLine)
    (hb : ∀ s x, x ∈ xs → pre s x → ∃ ρ1, γ (e x) (env s) = some ρ1 ∧ Ok (body ρ1 (mem s)) (KL env mem K (f s x))) (hp : preR f pre xs s0)
    (hnx : ∀ s, forR f xs s0 = .nx s → Ok (sSeq els rest (env s) (mem s)) (Q (onx s))) (hbk : ∀ s, forR f xs s0 = .bk s → Ok (rest (env s) (mem s)) (Q (obk s))) (hrt : ∀ r e M', K r (.rt e) M' → Q (ort r) (.rt e) M') :
    Ok (sSeq (sFor ι γ body els) rest ρ M) (Q (LS.sel onx obk ort (forR f xs s0))) := by
  obtain ⟨st, h1, h2⟩ := hi
  rw [ok_sSeq, ok_sFor, h1, Ok_ok, h0, hm]
  refine for_all xs e f env mem pre K (fun s i => by rw [h2 s i, List.getElem?_map]) hn hb s0 hp (fun s h => ?_) (fun s h => ?_) fun r e M' h hk => ?_
  · rw [h]
    have := hnx s h
    rw [ok_sSeq] at this
    exact this
  · rw [h]
    exact hbk s h
  · rw [h]
    exact hrt r e M' hk
/-! a turn's end -/
theorem take_app {M0 M1 R R' : Mem} (hl : M1.length = M0.length) : (M1 ++ R').take (M0 ++ R).length = M1 ++ R'.take R.length := by
  rw [List.length_append, List.take_append, List.take_of_length_le (by omega)]
  congr 2
  omega
theorem kw_nx {M0 M1 Rs Rs' : Mem} {vs : List Nat} {ρ : Env} {env : σ → Env} {mem : σ → Mem} {K : R → Out → Mem → Prop} {s : σ} (hl : M1.length = M0.length) (h1 : trimE (M0 ++ Rs).length (wipeE ρ vs) = env s) (h2 : M1 ++ Rs'.take Rs.length = mem s) : Ok (sNx ρ (M1 ++ Rs')) (KW (M0 ++ Rs).length vs (KL env mem K (.nx s))) := by
  rw [ok_sNx]
  exact ⟨.inl (by rw [← h1]; rfl), by rw [take_app hl, h2]⟩
theorem kw_ct {M0 M1 Rs Rs' : Mem} {vs : List Nat} {ρ : Env} {env : σ → Env} {mem : σ → Mem} {K : R → Out → Mem → Prop} {s : σ} (hl : M1.length = M0.length) (h1 : trimE (M0 ++ Rs).length (wipeE ρ vs) = env s) (h2 : M1 ++ Rs'.take Rs.length = mem s) : Ok (sCt ρ (M1 ++ Rs')) (KW (M0 ++ Rs).length vs (KL env mem K (.nx s))) := by
  rw [ok_sCt]
  exact ⟨.inr (by rw [← h1]; rfl), by rw [take_app hl, h2]⟩
theorem kw_bk {M0 M1 Rs Rs' : Mem} {vs : List Nat} {ρ : Env} {env : σ → Env} {mem : σ → Mem} {K : R → Out → Mem → Prop} {s : σ} (hl : M1.length = M0.length) (h1 : trimE (M0 ++ Rs).length (wipeE ρ vs) = env s) (h2 : M1 ++ Rs'.take Rs.length = mem s) : Ok (sBk ρ (M1 ++ Rs')) (KW (M0 ++ Rs).length vs (KL env mem K (.bk s))) := by
  rw [ok_sBk]
  exact ⟨by rw [← h1]; rfl, by rw [take_app hl, h2]⟩
theorem kw_ret {n : Nat} {vs : List Nat} {ρ : Env} {M : Mem} {env : σ → Env} {mem : σ → Mem} {K : R → Out → Mem → Prop} {φ : PFn} {r : R} (h : Ok (sRet φ ρ M) (K r)) : Ok (sRet φ ρ M) (KW n vs (KL env mem K (.rt r))) := by
  rw [ok_sRet] at h ⊢
  refine h.mono fun e M' hk => ⟨⟨e, rfl⟩, hk⟩
theorem trim_p {k : Nat} {d : P} {ρ : Env} : trimE k (some (.p d) :: ρ) = some (.p d) :: trimE k ρ := rfl
theorem trim_none {k : Nat} {ρ : Env} : trimE k (none :: ρ) = none :: trimE k ρ := rfl
theorem trim_nil {k : Nat} : trimE k [] = [] := rfl
theorem trim_obj {M0 Rs : Mem} {j k : Nat} {ρ : Env} (hk : M0.length = k) (h : j < Rs.length) : trimE (M0 ++ Rs).length (some (.obj (k + j)) :: ρ) = some (.obj (k + j)) :: trimE (M0 ++ Rs).length ρ := by
  subst hk
  unfold trimE
  rw [List.map_cons]
  simp only [List.length_append, if_pos (show M0.length + j < M0.length + Rs.length by omega)]
theorem trim_par {M0 Rs : Mem} {n : Nat} {ρ : Env} (h : n < M0.length) : trimE (M0 ++ Rs).length (some (.obj n) :: ρ) = some (.obj n) :: trimE (M0 ++ Rs).length ρ := by
  unfold trimE
  rw [List.map_cons]
  simp only [List.length_append, if_pos (show n < M0.length + Rs.length by omega)]
theorem trim_frz {k : Nat} {xs : List P} {ρ : Env} : trimE k (some (.frz xs) :: ρ) = some (.frz xs) :: trimE k ρ := rfl
theorem preF_true {f : σ → α → σ} : ∀ (xs : List α) (s : σ), preF f (fun _ _ => True) xs s
  | [], _ => trivial
  | x :: xs, s => ⟨trivial, preF_true xs (f s x)⟩
theorem preR_true {f : σ → α → LS σ R} : ∀ (xs : List α) (s : σ), preR f (fun _ _ => True) xs s
  | [], _ => trivial
  | x :: xs, s => ⟨trivial, by split <;> first | exact preR_true xs _ | trivial⟩
theorem cons_eq {α : Type} {a : α} {xs ys : List α} (h : xs = ys) : a :: xs = a :: ys := by rw [h]
end
end Cb

set_option Elab.async false
set_option linter.all false
set_option maxRecDepth 100000
/-! Cc, part I: defs with a star parameter, called by keywords alone; xs[::-1]. -/
namespace Cb
open PySem PySem.Spec PyProof.Rows L2

def FnGK (Z : Wd) (k : Nat) (f : Addr) (ks : List Str) (fs : FS) : Prop :=
  ∀ (A : Around) (outer : List PySem.Env) (s : Shared) (H : Hp) (vs : List V) (us : List Value) (ds : List D) (G : Addr → Prop) (L : List Addr) (M : Mem) (Q : VK) (E : XK), RoomG k A → Env0 Z.P Z.w Z.K Z.mg Z.base A outer s H → Vals vs us → us.length = ks.length →
    MR Z.K H G L M → RDs Z.K Z.T H G L M vs ds → Post Z.K Z.T H G L M (fs ds M) Q E → codeAny (model Z.P Z.w) A (.call (.ref f) ⟨[], ks.zip us⟩) (CR (L2.CX Z.P Z.w) outer Z.P Z.w H s Q E) s
/-- the parameters in the callee's order, nothing left over -/
def starK (plan : List Src) (n : Nat) (fs : FS) : FS := fun ds M => match planD plan ds with
  | some bs => if bs.length = n then fs (bs ++ [.p (.tuple [])]) M else .bad
  | none => .bad
def eCallK (fs : FS) (m : Nat) (β : AFn) : PFn := fun ρ M => (β ρ M).bind fun es M2 => if es.length = m then fs es M2 else .bad
section
variable {Z : Wd} {k : Nat} {f : Addr} {name qual : Str} {params : Arguments} {body : List Stmt} {scope : Scope} {dV kV doc pm cdv ct oc : Value} {an od : Option Addr} {osl : Array (Option Value)} {N ps ks : List Str} {pv : Str} {U : List Nat} {φ : SFn} {plan : List Src}
theorem fngk_of (lk : Z.K.lookup f = some ⟨oc, od, .func (PySem.W.fnOf name qual params body scope dV kV doc pm an cdv ct), osl⟩) (hcd : PySem.W.codeIn Z.K cdv qual = true) (S : FnScope N (ps ++ [pv]) scope) (hpl : plan.length = ps.length) (hdf : ∀ j d, Src.df j d ∉ plan)
    (hbind : ∀ us : List Value, us.length = ks.length → bindArgs (PySem.W.fnOf name qual params body scope dV kV doc pm an cdv ct) ⟨[], ks.zip us⟩ = (newTuple [] >>= fun t => pure (ps.zip (planU [] us plan) ++ [(pv, t)])))
    (hbody : ∀ X E, Gs Z k N scope X (WE E) → BD X Z.T (WE E) U φ body) : FnGK Z (k + 1) f ks (starK plan ps.length (defF N.length φ)) := by
  intro A outer s H vs us ds G L M Q E hr e0 r hul m rds hq
  unfold starK at hq
  split at hq
  · rename_i bs e
    split at hq
    · rename_i cond
      obtain ⟨xs, rv1, rd1, h3⟩ := plan_ok (its := []) r rds (fun j d hm => (hdf j d hm).elim) e
      have l1 : (planU [] us plan).length = ps.length := by rw [← rv1.length, h3, hpl]
      refine StX.run_bnd lk hcd S hr.room e0 (G := fun zs H2 => ∃ p, H p = none ∧ zs = xs ++ [V.ref p] ∧ H2 = upd H p (.tup [])) (fun A' Ex Q' h => ?_) fun s2 H2 zs ⟨p, hp, ez, eH⟩ hr' => ?_
      · have hn : H s.heap.objs.size = none := e0.hok.fresh (Nat.le_refl _)
        rw [hbind us hul]
        refine wpAny_bind (wpAny_newTuple (wpAny_pure ?_) (by simp))
        have new : ObjOk Z.P Z.w (upd H s.heap.objs.size (.tup [])) (s.heap.push ({ cls := .type "tuple", data := .seq ([] : List Value).toArray } : Obj)) s.heap.objs.size (.tup []) :=
          ⟨by simp, [], .nil, ⟨_, Heap.get?_push_size _ rfl, rfl, _, rfl⟩⟩
        have un := StX.un_laid (fs := frs outer) (s := s) (o := ({ cls := .type "tuple", data := .seq ([] : List Value).toArray } : Obj)) (u := .tup []) hn
        have z := h _ _ (xs ++ [V.ref s.heap.objs.size]) (planU [] us plan ++ [Value.ref s.heap.objs.size]) (StX.env0_laid e0 new) un rfl (fun e s' => StX.cxUp outer s H _ _ E e s' un (fun b o y => Heap.get?_push_of_some _ y) rfl) (rv1.append (.cons rfl .nil))
          (by rw [List.length_append, List.length_append, rv1.length, l1]; rfl) ⟨_, hn, rfl, rfl⟩
        rw [List.zip_append l1.symm] at z
        exact z
      · subst ez eH
        have n2 : Nxt H L M (upd H p (.tup [])) L M := Nxt.fresh hp
        have rd3 : RDs Z.K Z.T (upd H p (.tup [])) G L M (xs ++ [V.ref p]) (bs ++ [.p (.tuple [])]) :=
          RDs.app (RDs.ext n2 rd1) (.cons (.p (.tup (.inl upd_same) (MR.free m hp) .nil)) .nil)
        refine ⟨_, hbody (cxOf (L2.CX Z.P Z.w) Z.P Z.w Z.K Z.mg Z.base N qual scope f cdv A outer s2 _ E) E ⟨⟨rfl, rfl, rfl, rfl, rfl, rfl, rfl, ⟨rfl, S.nd, ?_, hr.g⟩, ⟨hr', hr.g⟩, takes_of rfl rfl rfl rfl⟩, passes_of rfl, fun _ => rfl, rfl, rfl, rfl, S.kind⟩, startE N.length (bs ++ [D.p (PyData.tuple [])]), G, L, M, sr_start (m.fresh hp) rd3, fin_post (m.fresh hp) (Post.start n2 hq)⟩
        have := hr'.un
        show (A.deeper _).units + 200 < cLine
        omega
    · exact hq.elim
  · exact hq.elim
end
section
variable {Z : Wd} {k : Nat} {N : List Str} {sc : Scope} {X : Cx} {W : WX} {f : Addr} {fs : FS} {kws : List Keyword} {β : AFn} {pos p : Pos} {x : Str}
theorem FnGK.mono {j : Nat} {ks : List Str} (F : FnGK Z j f ks fs) (h : j ≤ k) : FnGK Z k f ks fs := fun A outer s H vs us ds G L M Q E hr => F A outer s H vs us ds G L M Q E ⟨hr.room.mono h, hr.g⟩
theorem pd_callK (g : Gd Z k N sc X W) (F : FnGK Z k f (kwNames kws) fs) (hg : Gl X x) (hm : Z.mg x = some (.ref f)) (hk : PySem.W.keepIn Z.K (.ref f) = true) (hkw : kws.all (·.arg.isSome) = true)
    (hb : KD X Z.T W β kws) (hdb : (x == ("__debug__" : Str)) = false) : PD X Z.T W (eCallK fs (kwNames kws).length β) (.Call (.Name x p) [] kws pos) := by
  refine ⟨fun pins s σ H Q I h => ?_⟩
  obtain ⟨ρ, G, L, M, sr, h⟩ := h
  have hk' : PySem.W.keepIn X.K (.ref f) = true := by rw [g.hK]; exact hk
  refine wpAny_Call_Name_kw (ld_glob I hg (by rw [g.hm]; exact hm) ?_ hdb)
  refine PySem.W.callWith_KW0 (h₀ := X.base) I.ok.mod.kin hk' (kw_all hkw) ?_ (by rw [kw_any hkw]; rfl)
  refine thn (hb.run pos pins s σ H _ I ⟨ρ, G, L, M, sr, PostA.bind h⟩) fun ws s2 ⟨zs, H2, I2, rz, es, L2, M2, n2, m2, rd2, h2⟩ => ⟨I2.kIn, ?_⟩
  rw [kw_names]
  split at h2
  · rename_i hl
    have e0 := I2.env0
    rw [g.hP, g.hw, g.hK, g.hm, g.hb] at e0
    rw [g.hK] at m2 rd2 h2
    refine wpAny_call ?_
    rw [g.hP, g.hw]
    refine codeAny_mono (F X.A X.stack s2 H2 zs ws es G L2 M2 Q _ g.room e0 rz (by rw [← rz.length, rd2.length]; exact hl) m2 rd2 h2) fun r' s' hq => ?_
    cases r' with
    | error e =>
      refine g.takes e s' (XE.of_call I2 (fun _ _ _ z => z) ?_)
      rw [g.hP, g.hw]
      exact hq
    | ok fl =>
      cases fl with
      | ret u =>
        refine I2.after ?_
        rw [g.hP, g.hw]
        exact hq
      | next => exact False.elim hq
      | brk => exact False.elim hq
      | cont => exact False.elim hq
  · exact False.elim h2
theorem def_okK {st : Stmt} {fd : FuncData} {ps ks : List Str} {pv : Str} {U : List Nat} {χ : SFn} {plan : List Src} (F : DefAt Z x st f fd) (S : FnScope N (ps ++ [pv]) (defScope st)) (hpl : plan.length = ps.length) (hdf : ∀ j d, Src.df j d ∉ plan)
    (hbind : ∀ (kV doc pm : Value) (an : Option Addr) (cdv ct : Value) (us : List Value), us.length = ks.length → bindArgs (PySem.W.fnOf x x (defArgs st) (defBody st) (defScope st) .none kV doc pm an cdv ct) ⟨[], ks.zip us⟩ = (newTuple [] >>= fun t => pure (ps.zip (planU [] us plan) ++ [(pv, t)])))
    (hb : ∀ X E, Gs Z k N (defScope st) X (WE E) → BD X Z.T (WE E) U χ (defBody st)) : FnGK Z (k + 1) f ks (starK plan ps.length (defF N.length χ)) := by
  obtain ⟨oc, od, kV, doc, pm, an, cdv, ct, osl, rfl, lk, hcd⟩ := F.fn.ex
  exact fngk_of lk hcd S hpl hdf (hbind kV doc pm an cdv ct) hb
end
/-! xs[::-1], a list -/
def eRev (φ : PFn) : PFn := fun ρ M => (stl (φ ρ M)).bind fun d M1 => match pv d M1 with
  | some (.list xs) => .ok (.new (.lst xs.reverse)) M1
  | _ => .bad
section
variable {X : Cx} {T : Tb} {W : WX} {φ : PFn} {e : Expr} {k : Nat} {p1 p2 p3 pos : Pos}
theorem RpAll.reverse {K : PySem.W.Frag} {H : Hp} {Fb : Addr → Prop} : ∀ {vs : List V} {ds : List P}, RpAll K H Fb vs ds → RpAll K H Fb vs.reverse ds.reverse
  | _, _, .nil => .nil
  | _, _, .cons h t => by rw [List.reverse_cons, List.reverse_cons]; exact t.reverse.append (.cons h .nil)
theorem pd_rev (he : PD X T W φ e) : PD X T W (eRev φ) (.Subscript e (.Slice none none (some (.UnaryOp .USub (.Constant (.int 1) k p1) p2)) p3) pos) := PE.imp (pe_revL he) fun σ H Q h => by
  obtain ⟨ρ, G, L, M, s, h⟩ := h
  refine ⟨ρ, G, L, M, s, (Post.bind h).mono fun v H1 ⟨x, L1, M1, n1, m1, r1, h1⟩ => ?_⟩
  split at h1
  · rename_i xs e1
    obtain ⟨a, vs, rfl, hl, ra⟩ := pv_list m1 r1 e1
    exact ⟨a, vs, rfl, .inl (.inl hl), fun p hp => h1 p _ H1 L1 hp Nxt.refl m1 (.lst ra.reverse)⟩
  · exact h1.elim
end
end Cb

set_option Elab.async false
set_option linter.all false
set_option maxRecDepth 100000
/-! Fz, part C: sorted by length, None, dicts. -/
namespace Cb
open PySem PySem.Spec PyProof.Rows L2
open PySem.W (Datum DatumOrd Tup)
section
variable {α β : Type} [DecidableEq α] [DecidableEq β] {ρ : Env} {M : Mem} {φ ψ : PFn}
def srtLenE {α : Type} (xs : List (List α)) : List (List α) := xs.mergeSort fun a b => decide (a.length ≤ b.length)
theorem le_len (i j : Nat) : PySem.W.dataLe false id (.int i) (.int j) = decide (i ≤ j) := by
  show (!PySem.W.dataLt (.int j) (.int i)) = _
  rw [PySem.W.dataLt_int]
  by_cases h : i ≤ j
  · rw [decide_eq_true h, decide_eq_false (by omega)]; rfl
  · rw [decide_eq_false h, decide_eq_true (by omega)]; rfl
theorem en_srtLen {x : P} {f : List α → P} (hk : ∀ a, kLen (f a) = some a.length) (ho : ∀ a, okP (f a) = true) {xs : List (List α)} (h : EP φ ρ M x) (hx : x = .tuple (xs.map f) ∨ x = .list (xs.map f)) : EN (eSrtLen φ) ρ M (.lst ((srtLenE xs).map f)) := by
  obtain ⟨d1, a1, a2⟩ := h
  unfold EN eSrtLen
  rw [a1.go, Res.bind_ok]
  have z : seqP d1 M = some (xs.map f) := by rcases hx with hx | hx <;> simp only [seqP, a2, hx]
  have z2 : (xs.map f).all okLen = true := by
    rw [List.all_map, List.all_eq_true]
    intro a _
    show (okP (f a) && (kLen (f a)).isSome) = true
    rw [ho, hk]; rfl
  simp only [z, z2, if_true]
  have : bSrtLen (xs.map f) = (srtLenE xs).map f := by
    unfold bSrtLen srtLenE
    refine (List.map_mergeSort fun a _ b _ => ?_).symm
    show decide (a.length ≤ b.length) = PySem.W.dataLe false id (keyLen (f a)) (keyLen (f b))
    unfold keyLen
    rw [hk, hk]
    exact (le_len _ _).symm
  rw [this]
theorem en_srtLenT (e : Enc α) (hd : e.d + 1 ≤ 60) {x : P} {xs : List (List α)} (h : EP φ ρ M x) (hx : x = .tuple (xs.map (eTu e).f) ∨ x = .list (xs.map (eTu e).f)) : EN (eSrtLen φ) ρ M (.lst ((srtLenE xs).map (eTu e).f)) :=
  en_srtLen (fun a => by show some (a.map e.f).length = _; rw [List.length_map]) (fun a => (eTu e).ok hd a) h hx
theorem en_srtLenL (e : Enc α) (hd : e.d + 1 ≤ 60) {x : P} {xs : List (List α)} (h : EP φ ρ M x) (hx : x = .tuple (xs.map (eLi e).f) ∨ x = .list (xs.map (eLi e).f)) : EN (eSrtLen φ) ρ M (.lst ((srtLenE xs).map (eLi e).f)) :=
  en_srtLen (fun a => by show some (a.map e.f).length = _; rw [List.length_map]) (fun a => (eLi e).ok hd a) h hx
/-! None -/
theorem es_isN {e : Enc α} {hn : ∀ a, isNoneP (e.f a) = false} {v : Option α} {ψ : PFn} (h : ES φ ρ M (.p ((eOp e hn).f v))) (h2 : ES ψ ρ M (.p .none)) : ES (eBin dIs φ ψ) ρ M (.p (.bool v.isNone)) := by
  refine ⟨.d (.p (.bool v.isNone)), ?_, rfl⟩
  unfold eBin
  rw [h.go, Res.bind_ok, h2.go, Res.bind_ok]
  cases v with
  | none => rfl
  | some a =>
    have := hn a
    show ofO (dIs (.p (e.f a)) (.p .none) M) M = _
    cases z : e.f a <;> first | rfl | (rw [z] at this; cases this)
theorem es_isNN {e : Enc α} {hn : ∀ a, isNoneP (e.f a) = false} {v : Option α} {ψ : PFn} (h : ES φ ρ M (.p ((eOp e hn).f v))) (h2 : ES ψ ρ M (.p .none)) : ES (eBin dIsNot φ ψ) ρ M (.p (.bool (!v.isNone))) := by
  refine ⟨.d (.p (.bool (!v.isNone))), ?_, rfl⟩
  unfold eBin
  rw [h.go, Res.bind_ok, h2.go, Res.bind_ok]
  cases v with
  | none => rfl
  | some a =>
    have := hn a
    show ofO (dIsNot (.p (e.f a)) (.p .none) M) M = _
    cases z : e.f a <;> first | rfl | (rw [z] at this; cases this)
theorem es_some {e : Enc α} {hn : ∀ a, isNoneP (e.f a) = false} {x : α} (h : ES φ ρ M (.p (e.f x))) : ES φ ρ M (.p ((eOp e hn).f (some x))) := h
theorem es_none {e : Enc α} {hn : ∀ a, isNoneP (e.f a) = false} (h : ES φ ρ M (.p .none)) : ES φ ρ M (.p ((eOp e hn).f none)) := h
theorem es_cast {d d' : D} (h : d = d') (h2 : ES φ ρ M d) : ES φ ρ M d' := h ▸ h2
theorem opt_get [Inhabited α] {e : Enc α} {hn : ∀ a, isNoneP (e.f a) = false} {v : Option α} (h : v.isNone = false) : (D.p ((eOp e hn).f v)) = D.p (e.f (v.getD default)) := by
  cases v with
  | none => cases h
  | some a => rfl
theorem set_same {α : Type} {xs : List α} {i : Nat} {x : α} (h : xs[i]? = some x) : xs.set i x = xs := by
  apply List.ext_getElem?
  intro j
  by_cases e : i = j
  · subst e
    rw [List.getElem?_set_self (List.getElem?_eq_some_iff.mp h).1, h]
  · rw [List.getElem?_set_ne e]
theorem opt_cast [Inhabited α] {s : SFn} {Q : Out → Mem → Prop} {i : Nat} {e : Enc α} {hn : ∀ a, isNoneP (e.f a) = false} {v : Option α} (hz : v.isNone = false) (hi : ρ[i]? = some (some (.p ((eOp e hn).f v)))) (h : Ok (s (ρ.set i (some (.p (e.f (v.getD default))))) M) Q) : Ok (s ρ M) Q := by
  rw [← opt_get (hn := hn) hz, set_same hi] at h
  exact h
instance : Inhabited Str := ⟨⟨#[]⟩⟩
theorem as_starT0 {xs : List P} (h : EP φ ρ M (.tuple xs)) : AS (aStar φ aNil) ρ M (xs.map .p) := by
  have := as_starT h (as_nil (ρ := ρ) (M := M))
  rw [List.append_nil] at this; exact this
theorem as_starL0 {xs : List P} (h : EP φ ρ M (.list xs)) : AS (aStar φ aNil) ρ M (xs.map .p) := by
  have := as_starL h (as_nil (ρ := ρ) (M := M))
  rw [List.append_nil] at this; exact this
theorem ss_par {αs : AFn} {i j : Nat} {x y : D} (h : AS αs ρ M [x, y]) : SS (sPar i j αs) ρ M ((ρ.set i (some x)).set j (some y)) M := by
  unfold SS sPar
  rw [h]; rfl
theorem ss_asg {γ : GFn} {x : P} {ρ1 : Env} (h : ES φ ρ M (.p x)) (hg : γ x ρ = some ρ1) : SS (sAsg γ φ) ρ M ρ1 M := by
  unfold SS sAsg
  rw [h.go, Res.bind_ok]
  simp only [hg]
theorem ok_forLast {σ R τ : Type} {ι : IFn} {γ : GFn} {body : SFn} {Q : τ → Out → Mem → Prop} (xs : List α) (e : α → P) (f : σ → α → LS σ R) (env : σ → Env) (mem : σ → Mem) (pre : σ → α → Prop) (K : R → Out → Mem → Prop) (s0 : σ) (onx : σ → τ) (ort : R → τ) (hi : IL ι ρ M mem (xs.map e)) (h0 : ρ = env s0) (hm : M = mem s0) (hn : xs.length ≤ sizeLine)
    (hb : ∀ s x, x ∈ xs → pre s x → ∃ ρ1, γ (e x) (env s) = some ρ1 ∧ Ok (body ρ1 (mem s)) (KL env mem K (f s x))) (hp : preR f pre xs s0)
    (hnx : ∀ s, forR f xs s0 = .nx s ∨ forR f xs s0 = .bk s → Ok (sNx (env s) (mem s)) (Q (onx s))) (hrt : ∀ r e M', K r (.rt e) M' → Q (ort r) (.rt e) M') :
    Ok (sFor ι γ body sNx ρ M) (Q (LS.sel onx onx ort (forR f xs s0))) := by
  obtain ⟨st, h1, h2⟩ := hi
  rw [ok_sFor, h1, Ok_ok, h0, hm]
  refine for_all xs e f env mem pre K (fun s i => by rw [h2 s i, List.getElem?_map]) hn hb s0 hp (fun s h => ?_) (fun s h => ?_) fun r e M' h hk => ?_
  · rw [h]
    exact hnx s (.inl h)
  · rw [h]
    exact hnx s (.inr h)
  · rw [h]
    exact hrt r e M' hk
theorem en_rev {f : α → P} {xs : List α} (h : EP φ ρ M (.list (xs.map f))) : EN (eRev φ) ρ M (.lst (xs.reverse.map f)) := by
  obtain ⟨d1, a1, a2⟩ := h
  unfold EN eRev
  rw [a1.go, Res.bind_ok]
  simp only [a2, List.map_reverse]
theorem es_callK {fs : FS} {plan : List Src} {n m : Nat} {βs : AFn} {es bs : List D} {d : D} (h : AS βs ρ M es) (hl : es.length = m) (hp : planD plan es = some bs) (hb : bs.length = n) (hf : FS1 fs (bs ++ [.p (.tuple [])]) M d) : ES (eCallK (starK plan n fs) m βs) ρ M d := by
  obtain ⟨e, h3, h4⟩ := hf
  refine ⟨e, ?_, h4⟩
  unfold eCallK starK
  rw [h, Res.bind_ok, if_pos hl, hp]
  simp only
  rw [if_pos hb]
  exact h3
/-! dicts whose keys are texts -/
def dput {κ β : Type} [DecidableEq κ] (kvs : List (κ × β)) (k : κ) (v : β) : List (κ × β) := if k ∈ kvs.map (·.1) then kvs.map (fun kv => if kv.1 = k then (kv.1, v) else kv) else kvs ++ [(k, v)]
def encKV (ek : Enc α) (ev : Enc β) (kv : α × β) : P × P := (ek.f kv.1, ev.f kv.2)
theorem en_dnew {κ β : Type} [DecidableEq κ] [DecidableEq β] {ek : Enc κ} {ev : Enc β} : EN eDNew ρ M (.dct (([] : List (κ × β)).map (encKV ek ev))) := rfl
theorem dputP_str (ev : Enc β) (kvs : List (Str × β)) (k : Str) (v : β) : dputP (kvs.map (encKV eStr ev)) (.str k) (ev.f v) = (dput kvs k v).map (encKV eStr ev) := by
  unfold dputP dput
  have e1 : ((kvs.map (encKV eStr ev)).any fun kv => keqP kv.1 (.str k)) = decide (k ∈ kvs.map (·.1)) := by
    rw [List.any_map, Bool.eq_iff_iff, List.any_eq_true, decide_eq_true_eq, List.mem_map]
    constructor
    · rintro ⟨kv, h1, h2⟩
      have : (kv.1 == k) = true := h2
      exact ⟨kv, h1, by simpa using this⟩
    · rintro ⟨kv, h1, h2⟩
      exact ⟨kv, h1, by show (kv.1 == k) = true; simpa using h2⟩
  rw [e1]
  by_cases h : k ∈ kvs.map (·.1)
  · rw [if_pos (by simpa using h), if_pos h, List.map_map, List.map_map]
    refine List.map_congr_left fun kv _ => ?_
    show (if keqP (.str kv.1) (.str k) = true then _ else _) = encKV eStr ev (if kv.1 = k then _ else _)
    by_cases z : kv.1 = k
    · rw [if_pos z, if_pos (by show (kv.1 == k) = true; simpa using z)]; rfl
    · rw [if_neg z, if_neg (by show ¬ (kv.1 == k) = true; simpa using z)]
  · rw [if_neg (by simpa using h), if_neg h, List.map_append]; rfl
theorem ss_putS {i j k' : Nat} {R : Mem} (hk : M.length = k') (ev : Enc β) {kvs : List (Str × β)} {k : Str} {v : β} {φk φv : PFn} (hv : ρ[i]? = some (some (.obj (k' + j)))) (hr : R[j]? = some (.dct (kvs.map (encKV eStr ev)))) (h1 : ES φv ρ (M ++ R) (.p (ev.f v))) (h2 : ES φk ρ (M ++ R) (.p (.str k))) (hl : kvs.length < sizeLine) :
    SS (sSto (eVar i) φk φv) ρ (M ++ R) ρ (M ++ R.set j (.dct ((dput kvs k v).map (encKV eStr ev)))) := by
  have e1 : (M ++ R)[k' + j]? = some (.dct (kvs.map (encKV eStr ev))) := (obj_at hk).trans hr
  unfold SS sSto
  rw [h1.go, Res.bind_ok, (es_var hv).go, Res.bind_ok, h2.go, Res.bind_ok]
  unfold dSet
  simp only [pur_p, e1, keyOf, List.length_map, if_pos hl, obj_set hk, dputP_str]
/-- sorted of a dict -/
theorem en_srtD {ev : Enc β} {kvs : List (Str × β)} (h : EP φ ρ M (.dict (kvs.map (encKV eStr ev)))) (h1 : kvs.length < 64 ∧ ∀ x ∈ kvs, x.1.length ≤ 1000) : EN (eCallB bSrtU (aCons φ aNil)) ρ M (.lst ((srtE eStr (kvs.map (·.1))).map eStr.f)) :=
  es_b1 h fun d hd => by
    rw [srtE_eStr]
    refine srtU_dct (ks := kvs.map (·.1)) hd ?_ (by rw [List.length_map]; exact h1.1) fun x hx => ?_
    · rw [List.map_map, List.map_map]; rfl
    · obtain ⟨kv, hkv, rfl⟩ := List.mem_map.mp hx
      exact h1.2 kv hkv
/-! lists of parts -/
theorem ss_app0 {i j k : Nat} {R : Mem} (hk : M.length = k) {xs : List P} {y : P} (hv : ρ[i]? = some (some (.obj (k + j)))) (hr : R[j]? = some (.lst xs)) (hy : ES φ ρ (M ++ R) (.p y)) (hl : xs.length < sizeLine) :
    SS (sDrop (eMth gmAppend (eVar i) (aCons φ aNil))) ρ (M ++ R) ρ (M ++ R.set j (.lst (xs ++ [y]))) := by
  have e1 : (M ++ R)[k + j]? = some (.lst xs) := (obj_at hk).trans hr
  unfold SS sDrop eMth
  rw [(es_var hv).go, Res.bind_ok]
  simp only [kind_obj e1, gm_append]
  rw [show aCons φ aNil ρ (M ++ R) = .ok [.p y] (M ++ R) from as_cons hy as_nil, Res.bind_ok, mapp e1 hl, obj_set hk]
  rfl
theorem lt_small {xs : List P} {k : Nat} (h : xs.length = k) (hk : k ≤ 1000) : xs.length < sizeLine := by rw [h, sizeLine_eq]; omega
variable {γ δ : Type} [DecidableEq γ] [DecidableEq δ]
@[reducible] def ePl2 (e : Enc α) (k : Enc β) : Enc (α × β) := ⟨fun x => .list [e.f x.1, k.f x.2], max e.d k.d + 1, fun x => by simp only [PyData.plain, PyData.plainAll, e.pl, k.pl, Bool.and_self], fun x => by
    simp only [PyData.depth, PyData.depthAll]
    have h1 := e.dp x.1
    have h2 := k.dp x.2
    omega, fun x y => by
    simp only [PyData.eqv, PyData.eqvAll]
    rw [e.eqv, k.eqv, Bool.and_true, ← Bool.decide_and]
    exact decide_eq_decide.mpr ⟨fun z => Prod.ext z.1 z.2, fun z => by rw [z]; exact ⟨rfl, rfl⟩⟩⟩
@[reducible] def ePl3 (e : Enc α) (k : Enc β) (l : Enc γ) : Enc (α × β × γ) := ⟨fun x => .list [e.f x.1, k.f x.2.1, l.f x.2.2], max e.d (max k.d l.d) + 1, fun x => by simp only [PyData.plain, PyData.plainAll, e.pl, k.pl, l.pl, Bool.and_self], fun x => by
    simp only [PyData.depth, PyData.depthAll]
    have h1 := e.dp x.1
    have h2 := k.dp x.2.1
    have h3 := l.dp x.2.2
    omega, fun x y => by
    simp only [PyData.eqv, PyData.eqvAll]
    rw [e.eqv, k.eqv, l.eqv, Bool.and_true, ← Bool.decide_and, ← Bool.decide_and]
    exact decide_eq_decide.mpr ⟨fun z => Prod.ext z.1 (Prod.ext z.2.1 z.2.2), fun z => by rw [z]; exact ⟨rfl, rfl, rfl⟩⟩⟩
@[reducible] def ePl4 (e : Enc α) (k : Enc β) (l : Enc γ) (m : Enc δ) : Enc (α × β × γ × δ) := ⟨fun x => .list [e.f x.1, k.f x.2.1, l.f x.2.2.1, m.f x.2.2.2], max e.d (max k.d (max l.d m.d)) + 1, fun x => by simp only [PyData.plain, PyData.plainAll, e.pl, k.pl, l.pl, m.pl, Bool.and_self], fun x => by
    simp only [PyData.depth, PyData.depthAll]
    have h1 := e.dp x.1
    have h2 := k.dp x.2.1
    have h3 := l.dp x.2.2.1
    have h4 := m.dp x.2.2.2
    omega, fun x y => by
    simp only [PyData.eqv, PyData.eqvAll]
    rw [e.eqv, k.eqv, l.eqv, m.eqv, Bool.and_true, ← Bool.decide_and, ← Bool.decide_and, ← Bool.decide_and]
    exact decide_eq_decide.mpr ⟨fun z => Prod.ext z.1 (Prod.ext z.2.1 (Prod.ext z.2.2.1 z.2.2.2)), fun z => by rw [z]; exact ⟨rfl, rfl, rfl, rfl⟩⟩⟩
end
end Cb

set_option Elab.async false
set_option linter.all false
set_option maxRecDepth 100000
/-! Fz, part E: what an expression gives, where objects change on the way. -/
namespace Cb
open PySem PySem.Spec PyProof.Rows L2
open PySem.W (Datum DatumOrd Tup)
section
variable {α β : Type} [DecidableEq α] [DecidableEq β] {ρ : Env} {M M1 M2 M3 : Mem} {φ ψ : PFn} {t u : TFn} {αs βs : AFn}
def EF (φ : PFn) (ρ : Env) (M : Mem) (d : D) (M' : Mem) : Prop := ∃ e, φ ρ M = .ok e M' ∧ e.stl = d
def EFN (φ : PFn) (ρ : Env) (M : Mem) (o : MObj) (M' : Mem) : Prop := φ ρ M = .ok (.new o) M'
def TE (t : TFn) (ρ : Env) (M : Mem) (b : Bool) (M' : Mem) : Prop := t ρ M = .ok b M'
def AF (α : AFn) (ρ : Env) (M : Mem) (ds : List D) (M' : Mem) : Prop := α ρ M = .ok ds M'
def OF (l : OFn) (ρ : Env) (M : Mem) (o : Option Int) (M' : Mem) : Prop := l ρ M = .ok o M'
theorem EF.go {d : D} (h : EF φ ρ M d M1) : stl (φ ρ M) = .ok d M1 := by
  obtain ⟨e, h1, h2⟩ := h
  rw [h1, stl_ok, h2]
theorem ef_es {d : D} (h : ES φ ρ M d) : EF φ ρ M d M := h
theorem ef_ep {i n : Nat} (h : ρ[i]? = some (some (.obj n))) : EF (eVar i) ρ M (.obj n) M := es_var h
theorem efn_en {o : MObj} (h : EN φ ρ M o) : EFN φ ρ M o M := h
theorem ef_efn {o : MObj} (h : EFN φ ρ M o M1) : EF φ ρ M (.p o.toP) M1 := ⟨_, h, rfl⟩
theorem te_ts {b : Bool} (h : TS t ρ M b) : TE t ρ M b M := h
theorem ef_g {g : D → D → Mem → Option Ev} {a b : D} {e : Ev} (h1 : EF φ ρ M a M1) (h2 : EF ψ ρ M1 b M2) (hg : g a b M2 = some e) : eBin g φ ψ ρ M = .ok e M2 := by
  unfold eBin
  rw [h1.go, Res.bind_ok, h2.go, Res.bind_ok, hg, ofO_some]
theorem ef_onP {g : P → P → Option P} {x y z : P} {a b : D} (h1 : EF φ ρ M a M1) (h2 : EF ψ ρ M1 b M2) (ha : pv a M2 = some x) (hb : pv b M2 = some y) (hg : g x y = some z) : EF (eBin (onP g) φ ψ) ρ M (.p z) M2 :=
  ⟨_, ef_g (e := .d (.p z)) h1 h2 (by simp only [onP, ha, hb, hg, Option.map_some]), rfl⟩
theorem dAdd_pv {a b : D} {x y : P} (ha : pv a M = some x) (hb : pv b M = some y) : dAdd a b M = dAdd (.p x) (.p y) M := by simp only [dAdd, ha, hb, pv_p]
theorem ef_addI {i j : Int} (h1 : EF φ ρ M (.p (.int i)) M1) (h2 : EF ψ ρ M1 (.p (.int j)) M2) : EF (eBin dAdd φ ψ) ρ M (.p (.int (i + j))) M2 := ⟨_, ef_g (e := .d (.p (.int (i + j)))) h1 h2 rfl, rfl⟩
theorem ef_addT (e : Enc α) {xs ys : List α} {a b : D} (h1 : EF φ ρ M a M1) (h2 : EF ψ ρ M1 b M2) (ha : pv a M2 = some (.tuple (xs.map e.f))) (hb : pv b M2 = some (.tuple (ys.map e.f))) (hl : xs.length + ys.length ≤ sizeLine) : EF (eBin dAdd φ ψ) ρ M (.p (.tuple ((xs ++ ys).map e.f))) M2 :=
  ⟨_, ef_g (e := .d (.p (.tuple (xs.map e.f ++ ys.map e.f)))) h1 h2 (by rw [dAdd_pv ha hb, dAdd_tuple (by rw [List.length_map, List.length_map]; exact hl)]), by rw [List.map_append]; rfl⟩
theorem efn_addL (e : Enc α) {xs ys : List α} {a b : D} (h1 : EF φ ρ M a M1) (h2 : EF ψ ρ M1 b M2) (ha : pv a M2 = some (.list (xs.map e.f))) (hb : pv b M2 = some (.list (ys.map e.f))) (hl : xs.length + ys.length ≤ sizeLine) : EFN (eBin dAdd φ ψ) ρ M (.lst ((xs ++ ys).map e.f)) M2 := by
  unfold EFN
  rw [ef_g (e := .new (.lst (xs.map e.f ++ ys.map e.f))) h1 h2 (by rw [dAdd_pv ha hb, dAdd_list (by rw [List.length_map, List.length_map]; exact hl)]), List.map_append]
theorem atI_map {f : α → P} {xs : List α} {i : Int} {y : α} (hi : atI xs i = some y) : atI (xs.map f) i = some (f y) := by
  unfold atI at hi ⊢
  rw [List.length_map]
  cases z : ixN xs.length i with
  | none => rw [z] at hi; cases hi
  | some k => rw [z] at hi; simp only [Option.bind_some] at hi ⊢; rw [List.getElem?_map, hi]; rfl
theorem ef_sub (e : Enc α) {xs : List α} {i : Int} {y : α} {a : D} (h1 : EF φ ρ M a M1) (h2 : EF ψ ρ M1 (.p (.int i)) M2) (ha : pv a M2 = some (.tuple (xs.map e.f)) ∨ pv a M2 = some (.list (xs.map e.f))) (hi : atI xs i = some y) : EF (eBin dSub φ ψ) ρ M (.p (e.f y)) M2 :=
  ⟨_, ef_g (e := .d (.p (e.f y))) h1 h2 (by rcases ha with ha | ha <;> simp only [dSub, ha, atI_map hi, Option.map_some]), rfl⟩
theorem ef_subP {xs : List P} {i : Int} {y : P} {a : D} (h1 : EF φ ρ M a M1) (h2 : EF ψ ρ M1 (.p (.int i)) M2) (ha : pv a M2 = some (.tuple xs) ∨ pv a M2 = some (.list xs)) (hi : atI xs i = some y) : EF (eBin dSub φ ψ) ρ M (.p y) M2 :=
  ⟨_, ef_g (e := .d (.p y)) h1 h2 (by rcases ha with ha | ha <;> simp only [dSub, ha, hi, Option.map_some]), rfl⟩
theorem es_subPL {xs : List P} {i : Int} {y : P} (h1 : EP φ ρ M (.list xs)) (h2 : ES ψ ρ M (.p (.int i))) (hi : atI xs i = some y) : ES (eBin dSub φ ψ) ρ M (.p y) := by
  obtain ⟨d1, a1, a2⟩ := h1
  exact ef_subP (ef_es a1) (ef_es h2) (.inr a2) hi
theorem es_subD {xs : List (P × P)} {k : P} {q : Key} {y : P} (h1 : EP φ ρ M (.dict xs)) (h2 : ES ψ ρ M (.p k)) (hk : keyOf k = some q) (hi : dgetP xs k = some y) : ES (eBin dSub φ ψ) ρ M (.p y) := by
  obtain ⟨d1, a1, a2⟩ := h1
  refine ⟨.d (.p y), ?_, rfl⟩
  unfold eBin
  rw [a1.go, Res.bind_ok, h2.go, Res.bind_ok]
  simp only [dSub, a2, hk, hi, Option.map_some, ofO_some]
theorem te_val {b : Bool} (h : EF φ ρ M (.p (.bool b)) M1) : TE (tVal φ) ρ M b M1 := by
  unfold TE tVal
  rw [h.go]; rfl
theorem te_not {b : Bool} (h : TE t ρ M b M1) : TE (tNot t) ρ M (!b) M1 := by
  unfold TE tNot
  rw [h]; rfl
theorem te_and {S : Type} (mem : S → Mem) {b c : Bool} {s1 s2 : S} (h : TE t ρ M b (mem s1)) (h2 : b = true → TE u ρ (mem s1) c (mem s2)) : TE (tAnd t u) ρ M (if b = true then (c, s2) else (false, s1)).1 (mem (if b = true then (c, s2) else (false, s1)).2) := by
  unfold TE tAnd
  rw [h, Res.bind_ok]
  cases b with
  | true => exact h2 rfl
  | false => rfl
theorem te_or {S : Type} (mem : S → Mem) {b c : Bool} {s1 s2 : S} (h : TE t ρ M b (mem s1)) (h2 : b = false → TE u ρ (mem s1) c (mem s2)) : TE (tOr t u) ρ M (if b = true then (true, s1) else (c, s2)).1 (mem (if b = true then (true, s1) else (c, s2)).2) := by
  unfold TE tOr
  rw [h, Res.bind_ok]
  cases b with
  | true => rfl
  | false => exact h2 rfl
theorem ef_if {S γ : Type} (mem : S → Mem) (e : γ → D) {b : Bool} {x y : γ} {s1 s2 : S} (h : TE t ρ M b M1) (h1 : b = true → EF φ ρ M1 (e x) (mem s1)) (h2 : b = false → EF ψ ρ M1 (e y) (mem s2)) : EF (eIf t φ ψ) ρ M (e (if b = true then (x, s1) else (y, s2)).1) (mem (if b = true then (x, s1) else (y, s2)).2) := by
  unfold EF eIf
  rw [h, Res.bind_ok]
  cases b with
  | true => exact h1 rfl
  | false => exact h2 rfl
theorem ef_orI {i j : Int} {S : Type} (mem : S → Mem) {s1 s2 : S} (h : EF φ ρ M (.p (.int i)) (mem s1)) (h2 : i = 0 → EF ψ ρ (mem s1) (.p (.int j)) (mem s2)) : EF (eOrI φ ψ) ρ M (.p (.int (if i = 0 then (j, s2) else (i, s1)).1)) (mem (if i = 0 then (j, s2) else (i, s1)).2) := by
  unfold EF eOrI
  rw [h.go, Res.bind_ok]
  simp only
  by_cases z : i = 0
  · rw [if_pos z, if_pos z]; exact h2 z
  · rw [if_neg z, if_neg z]; exact ⟨_, rfl, rfl⟩
theorem es_orI {i j : Int} (h : ES φ ρ M (.p (.int i))) (h2 : i = 0 → ES ψ ρ M (.p (.int j))) : ES (eOrI φ ψ) ρ M (.p (.int (if i = 0 then j else i))) := by
  unfold ES eOrI
  rw [h.go, Res.bind_ok]
  simp only
  by_cases z : i = 0
  · rw [if_pos z, if_pos z]; exact h2 z
  · rw [if_neg z, if_neg z]; exact ⟨_, rfl, rfl⟩
theorem af_as {ds : List D} (h : AS αs ρ M ds) : AF αs ρ M ds M := h
theorem af_nil : AF aNil ρ M [] M := rfl
theorem af_cons {d : D} {ds : List D} (h : EF φ ρ M d M1) (h2 : AF αs ρ M1 ds M2) : AF (aCons φ αs) ρ M (d :: ds) M2 := by
  unfold AF aCons
  rw [h.go, Res.bind_ok, h2]; rfl
theorem ef_tup {xs : List P} (h : AF αs ρ M (xs.map .p) M1) (hz : xs.length ≤ sizeLine) : EF (eTup αs) ρ M (.p (.tuple xs)) M1 := by
  refine ⟨.d (.p (.tuple xs)), ?_, rfl⟩
  unfold eTup
  rw [h, Res.bind_ok, purs_ps]
  simp only
  rw [if_pos hz]
theorem efn_lst {xs : List P} (h : AF αs ρ M (xs.map .p) M1) (hz : xs.length ≤ sizeLine) : EFN (eLst αs) ρ M (.lst xs) M1 := by
  unfold EFN eLst
  rw [h, Res.bind_ok, purs_ps]
  simp only
  rw [if_pos hz]
theorem ef_call {fs : FS} {n m : Nat} {plan : List Src} {ds es bs : List D} {d : D} (h1 : AF αs ρ M ds M1) (h2 : AF βs ρ M1 es M2) (hl : ds.length = n ∧ es.length = m) (hp : planD plan (ds ++ es) = some bs) (hf : FR1 fs bs M2 d M3) : EF (eCallU fs n m plan αs βs) ρ M d M3 := by
  obtain ⟨e, h3, h4⟩ := hf
  refine ⟨e, ?_, h4⟩
  unfold eCallU
  rw [h1, Res.bind_ok, h2, Res.bind_ok, if_pos hl, hp]
  exact h3
theorem efn_call {fs : FS} {n m : Nat} {plan : List Src} {ds es bs : List D} {o : MObj} (h1 : AF αs ρ M ds M1) (h2 : AF βs ρ M1 es M2) (hl : ds.length = n ∧ es.length = m) (hp : planD plan (ds ++ es) = some bs) (hf : FRN fs bs M2 o M3) : EFN (eCallU fs n m plan αs βs) ρ M o M3 := by
  unfold EFN eCallU
  rw [h1, Res.bind_ok, h2, Res.bind_ok, if_pos hl, hp]
  exact hf
theorem fr_fs {fs : FS} {ds : List D} {d : D} (h : FS1 fs ds M d) : FR1 fs ds M d M := h
theorem frn_fn {fs : FS} {ds : List D} {o : MObj} (h : FN1 fs ds M o) : FRN fs ds M o M := h
theorem fr_frn {fs : FS} {ds : List D} {o : MObj} (h : FRN fs ds M o M1) : FR1 fs ds M (.p o.toP) M1 := ⟨_, h, rfl⟩
/-! one object changes -/
theorem par_at {R : Mem} {n : Nat} {o : MObj} (hn : n < M.length) : (M.set n o ++ R)[n]? = some o := by
  rw [List.getElem?_append_left (by rw [List.length_set]; exact hn), List.getElem?_set_self hn]
theorem par_set {R : Mem} {n : Nat} {o o' : MObj} (hn : n < M.length) : (M.set n o ++ R).set n o' = M.set n o' ++ R := by
  rw [List.set_append_left _ _ (by rw [List.length_set]; exact hn), List.set_set]
theorem fr_par {fs : FS} {ds : List D} {d : D} {n : Nat} {o o' : MObj} {R : Mem} (hn : n < M.length) (h : FR1 fs ds (M.set n o ++ R) d ((M.set n o ++ R).set n o')) : FR1 fs ds (M.set n o ++ R) d (M.set n o' ++ R) := by
  rw [par_set hn] at h; exact h
theorem frn_par {fs : FS} {ds : List D} {d : MObj} {n : Nat} {o o' : MObj} {R : Mem} (hn : n < M.length) (h : FRN fs ds (M.set n o ++ R) d ((M.set n o ++ R).set n o')) : FRN fs ds (M.set n o ++ R) d (M.set n o' ++ R) := by
  rw [par_set hn] at h; exact h
theorem fr_loc {fs : FS} {ds : List D} {d : D} {j k : Nat} {o' : MObj} {R : Mem} (hk : M.length = k) (h : FR1 fs ds (M ++ R) d ((M ++ R).set (k + j) o')) : FR1 fs ds (M ++ R) d (M ++ R.set j o') := by
  rw [obj_set hk] at h; exact h
theorem frn_loc {fs : FS} {ds : List D} {d : MObj} {j k : Nat} {o' : MObj} {R : Mem} (hk : M.length = k) (h : FRN fs ds (M ++ R) d ((M ++ R).set (k + j) o')) : FRN fs ds (M ++ R) d (M ++ R.set j o') := by
  rw [obj_set hk] at h; exact h
theorem fr_start {fs : FS} {ds : List D} {d : D} {n : Nat} {o : MObj} (hc : M[n]? = some o) (h : FR1 fs ds (M.set n o) d M1) : FR1 fs ds M d M1 := by
  rw [set_same hc] at h; exact h
theorem frn_start {fs : FS} {ds : List D} {d : MObj} {n : Nat} {o : MObj} (hc : M[n]? = some o) (h : FRN fs ds (M.set n o) d M1) : FRN fs ds M d M1 := by
  rw [set_same hc] at h; exact h
theorem lt_of_at {n : Nat} {o : MObj} (hc : M[n]? = some o) : n < M.length := (List.getElem?_eq_some_iff.mp hc).1
/-! builtins -/
theorem ef_b1 {g : List D → Mem → Option (Ev × Mem)} {a : D} {e : Ev} (h : EF φ ρ M a M1) (hg : g [a] M1 = some (e, M1)) : eCallB g (aCons φ aNil) ρ M = .ok e M1 := by
  unfold eCallB
  rw [show aCons φ aNil ρ M = .ok [a] M1 from af_cons h af_nil, Res.bind_ok, hg, ofM_some]
theorem ef_bk {g : List D → Mem → Option (Ev × Mem)} {ds : List D} {z : P} (h : AF αs ρ M ds M1) (hg : g ds M1 = some (.d (.p z), M1)) : EF (eCallB g αs) ρ M (.p z) M1 := by
  refine ⟨.d (.p z), ?_, rfl⟩
  unfold eCallB
  rw [h, Res.bind_ok, hg, ofM_some]
theorem es_bk {g : List D → Mem → Option (Ev × Mem)} {ds : List D} {z : P} (h : AS αs ρ M ds) (hg : g ds M = some (.d (.p z), M)) : ES (eCallB g αs) ρ M (.p z) := ef_bk (af_as h) hg
theorem ef_tupleB {xs : List P} (h : EF φ ρ M (.p (.list xs)) M1) : EF (eCallB bTuple (aCons φ aNil)) ρ M (.p (.tuple xs)) M1 := ⟨_, ef_b1 (e := .d (.p (.tuple xs))) h rfl, rfl⟩
theorem ef_tupleT {xs : List P} (h : EF φ ρ M (.p (.tuple xs)) M1) : EF (eCallB bTuple (aCons φ aNil)) ρ M (.p (.tuple xs)) M1 := ⟨_, ef_b1 (e := .d (.p (.tuple xs))) h rfl, rfl⟩
theorem ef_lenT {xs : List α} {f : α → P} (h : EF φ ρ M (.p (.tuple (xs.map f))) M1) : EF (eCallB bLen (aCons φ aNil)) ρ M (.p (.int xs.length)) M1 := ⟨_, ef_b1 (e := .d (.p (.int xs.length))) h (by show some (_, _) = _; rw [List.length_map]), rfl⟩
theorem ef_lenL {xs : List α} {f : α → P} (h : EF φ ρ M (.p (.list (xs.map f))) M1) : EF (eCallB bLen (aCons φ aNil)) ρ M (.p (.int xs.length)) M1 := ⟨_, ef_b1 (e := .d (.p (.int xs.length))) h (by show some (_, _) = _; rw [List.length_map]), rfl⟩
theorem efn_listT {xs : List P} (h : EF φ ρ M (.p (.tuple xs)) M1) : EFN (eCallB bList (aCons φ aNil)) ρ M (.lst xs) M1 := ef_b1 h rfl
theorem efn_listL {xs : List P} (h : EF φ ρ M (.p (.list xs)) M1) : EFN (eCallB bList (aCons φ aNil)) ρ M (.lst xs) M1 := ef_b1 h rfl
theorem efn_srt {x : P} {e : Enc α} (o : EncO e) (hd : e.d ≤ 60) {xs : List α} (h : EF φ ρ M (.p x) M1) (hx : x = .tuple (xs.map e.f) ∨ x = .list (xs.map e.f)) (h2 : (∀ a ∈ xs, tup1 (e.f a) = true) ∨ ∀ a ∈ xs, flat1 (e.f a) = true) : EFN (eCallB bSrtU (aCons φ aNil)) ρ M (.lst ((srtE e xs).map e.f)) M1 :=
  ef_b1 h (srtU_of (by
    have z : seqP (.p x) M1 = some (xs.map e.f) := by rcases hx with hx | hx <;> rw [hx] <;> rfl
    simp only [bSrt, z, if_pos (sortOkE o hd h2), sortP_mapE]))
theorem ef_repr {x : P} (h : EF φ ρ M (.p x) M1) (hr : reprOk x = true) : EF (eCallB bRepr (aCons φ aNil)) ρ M (.p (.str x.shown)) M1 := ⟨_, ef_b1 (e := .d (.p (.str x.shown))) h (by simp only [bRepr, pv_p, if_pos hr]), rfl⟩
theorem of_none : OF oNone ρ M none M := rfl
theorem of_some {i : Int} (h : EF φ ρ M (.p (.int i)) M1) : OF (oSome φ) ρ M (some i) M1 := by
  unfold OF oSome
  rw [h.go]; rfl
theorem ef_slT (e : Enc α) {xs : List α} {lo hi : OFn} {i j : Option Int} {a : D} (h : EF φ ρ M a M1) (hl : OF lo ρ M1 i M2) (hu : OF hi ρ M2 j M3) (ha : pv a M3 = some (.tuple (xs.map e.f))) : EF (eSl φ lo hi) ρ M (.p (.tuple ((cutE xs i j).map e.f))) M3 := by
  refine ⟨.d (.p (.tuple ((cutE xs i j).map e.f))), ?_, rfl⟩
  unfold eSl
  rw [h.go, Res.bind_ok, hl, Res.bind_ok, hu, Res.bind_ok, dSl_ne ha, dSl_tuple, cutP_map, ofO_some]
theorem efn_slL (e : Enc α) {xs : List α} {lo hi : OFn} {i j : Option Int} {a : D} (h : EF φ ρ M a M1) (hl : OF lo ρ M1 i M2) (hu : OF hi ρ M2 j M3) (ha : pv a M3 = some (.list (xs.map e.f))) : EFN (eSl φ lo hi) ρ M (.lst ((cutE xs i j).map e.f)) M3 := by
  unfold EFN eSl
  rw [h.go, Res.bind_ok, hl, Res.bind_ok, hu, Res.bind_ok, dSl_ne ha, dSl_list, cutP_map, ofO_some]
theorem en_slF {xs : List P} {lo hi : OFn} {i j : Option Int} (h : ES φ ρ M (.frz xs)) (hl : OS lo ρ M i) (hu : OS hi ρ M j) : EN (eSl φ lo hi) ρ M (.lst (cutP xs i j)) := by
  unfold EN eSl
  rw [h.go, Res.bind_ok, hl, Res.bind_ok, hu, Res.bind_ok, dSl_frz, ofO_some]
theorem erase_map {f : α → P} : ∀ (xs : List α) (i : Nat), (xs.map f).eraseIdx i = (xs.eraseIdx i).map f
  | [], _ => rfl
  | _ :: _, 0 => rfl
  | x :: xs, i + 1 => by rw [List.map_cons, List.eraseIdx_cons_succ, List.eraseIdx_cons_succ, List.map_cons, erase_map xs i]
/-! methods that change a list -/
theorem ef_pop {R1 R2 : Mem} {v j k : Nat} {i : Int} (e : Enc α) [Inhabited α] {xs ys : List α} (hk1 : M1.length = k) (hk2 : M2.length = k) (hv : ρ[v]? = some (some (.obj (k + j)))) (hr1 : R1[j]? = some (.lst (xs.map e.f))) (ha : AF αs ρ (M1 ++ R1) [.p (.int i)] (M2 ++ R2)) (hr2 : R2[j]? = some (.lst (ys.map e.f))) (hi : 0 ≤ i ∧ i < ys.length ∧ ys.length ≤ sizeLine) :
    EF (eMth gmPop (eVar v) αs) ρ (M1 ++ R1) (.p (e.f (ixE ys i))) (M2 ++ R2.set j (.lst ((ys.eraseIdx i.toNat).map e.f))) := by
  obtain ⟨h0, h1, h2⟩ := hi
  obtain ⟨q, rfl⟩ := Int.eq_ofNat_of_zero_le h0
  have hq : q < ys.length := by omega
  have e1 : (M1 ++ R1)[k + j]? = some (.lst (xs.map e.f)) := (obj_at hk1).trans hr1
  have e2 : (M2 ++ R2)[k + j]? = some (.lst (ys.map e.f)) := (obj_at hk2).trans hr2
  have e3 : ixE ys (q : Int) = ys[q] := by unfold ixE; rw [atI_nat', List.getElem?_eq_getElem hq]; rfl
  refine ⟨.d (.p (e.f (ixE ys q))), ?_, rfl⟩
  unfold eMth
  rw [(es_var hv).go, Res.bind_ok]
  simp only [kind_obj e1, gm_pop]
  rw [ha, Res.bind_ok, mpop (k := q) e2 rfl (by omega) (by rw [List.getElem?_map, List.getElem?_eq_getElem hq]; rfl), obj_set hk2, e3, erase_map]
  rfl
theorem ef_pop0 {R1 : Mem} {v j k : Nat} (e : Enc α) [Inhabited α] {xs : List α} (hk1 : M1.length = k) (hv : ρ[v]? = some (some (.obj (k + j)))) (hr1 : R1[j]? = some (.lst (xs.map e.f))) (hx : xs ≠ []) :
    EF (eMth gmPop (eVar v) aNil) ρ (M1 ++ R1) (.p (e.f (xs.getLast?.getD default))) (M1 ++ R1.set j (.lst (xs.dropLast.map e.f))) := by
  have e1 : (M1 ++ R1)[k + j]? = some (.lst (xs.map e.f)) := (obj_at hk1).trans hr1
  have e4 : xs = xs.dropLast ++ [xs.getLast?.getD default] := by
    rw [List.getLast?_eq_some_getLast hx]; exact (List.dropLast_concat_getLast hx).symm
  refine ⟨.d (.p (e.f (xs.getLast?.getD default))), ?_, rfl⟩
  unfold eMth
  rw [(es_var hv).go, Res.bind_ok]
  simp only [kind_obj e1, gm_pop]
  have e2 : (M1 ++ R1)[k + j]? = some (.lst (xs.dropLast.map e.f ++ [e.f (xs.getLast?.getD default)])) := by
    rw [e1]; congr 2
    conv => lhs; rw [e4]
    rw [List.map_append]; rfl
  rw [show aNil ρ (M1 ++ R1) = .ok [] (M1 ++ R1) from rfl, Res.bind_ok, mpop0 e2, obj_set hk1]
  rfl
/-! statements -/
theorem ss_setF {i : Nat} {d : D} (h : EF φ ρ M d M1) : SS (sSet i φ) ρ M (ρ.set i (some d)) M1 := by
  unfold SS sSet
  rw [h.go]; rfl
theorem ss_newF {i k : Nat} {o : MObj} {R : Mem} (hk : M1.length = k) (h : EFN φ ρ M o (M1 ++ R)) : SS (sSet i (eAl φ)) ρ M (ρ.set i (some (.obj (k + R.length)))) (M1 ++ (R ++ [o])) := by
  subst hk
  unfold SS sSet eAl
  rw [h, ← List.append_assoc, ← List.length_append]; rfl
theorem ss_dropF {d : D} (h : EF φ ρ M d M1) : SS (sDrop φ) ρ M ρ M1 := by
  unfold SS sDrop
  rw [h.go]; rfl
theorem ss_parF {i j : Nat} {x y : D} (h : AF αs ρ M [x, y] M1) : SS (sPar i j αs) ρ M ((ρ.set i (some x)).set j (some y)) M1 := by
  unfold SS sPar
  rw [h]; rfl
theorem ss_asgF {γ : GFn} {x : P} {ρ1 : Env} (h : EF φ ρ M (.p x) M1) (hg : γ x ρ = some ρ1) : SS (sAsg γ φ) ρ M ρ1 M1 := by
  unfold SS sAsg
  rw [h.go, Res.bind_ok]
  simp only [hg]
theorem ss_appF {i j k : Nat} {R R1 : Mem} (hk : M.length = k) (hk1 : M1.length = k) (e : Enc α) {ws xs : List α} {y : α} (hv : ρ[i]? = some (some (.obj (k + j)))) (hr0 : R[j]? = some (.lst (ws.map e.f))) (hy : EF φ ρ (M ++ R) (.p (e.f y)) (M1 ++ R1)) (hr : R1[j]? = some (.lst (xs.map e.f))) (hl : xs.length < sizeLine) :
    SS (sDrop (eMth gmAppend (eVar i) (aCons φ aNil))) ρ (M ++ R) ρ (M1 ++ R1.set j (.lst ((xs ++ [y]).map e.f))) := by
  have e0 : (M ++ R)[k + j]? = some (.lst (ws.map e.f)) := (obj_at hk).trans hr0
  have e1 : (M1 ++ R1)[k + j]? = some (.lst (xs.map e.f)) := (obj_at hk1).trans hr
  unfold SS sDrop eMth
  rw [(es_var hv).go, Res.bind_ok]
  simp only [kind_obj e0, gm_append]
  rw [show aCons φ aNil ρ (M ++ R) = .ok [.p (e.f y)] (M1 ++ R1) from af_cons hy af_nil, Res.bind_ok, mapp e1 (by rw [List.length_map]; exact hl), obj_set hk1, List.map_append]
  rfl
theorem ss_stoQ {i n : Nat} {R1 : Mem} {xs : List P} {q : Nat} {y : P} {φv : PFn} {N : Mem} (hn : n < N.length) (hv : ρ[i]? = some (some (.obj n))) (h1 : EF φv ρ M (.p y) (N.set n (.lst xs) ++ R1)) (hq : q < xs.length) :
    SS (sSto (eVar i) (eD (.p (.int (q : Int)))) φv) ρ M ρ (N.set n (.lst (xs.set q y)) ++ R1) := by
  unfold SS sSto
  rw [h1.go, Res.bind_ok, (es_var hv).go, Res.bind_ok, es_c.go, Res.bind_ok]
  have e : ixN xs.length (q : Int) = some q := by
    unfold ixN
    rw [if_pos (by omega), if_pos (by omega)]; rfl
  unfold dSet
  simp only [pur_p, par_at hn, e, par_set hn]
theorem ok_ifF {τ : Type} {s r : SFn} {Q : τ → Out → Mem → Prop} {b : Bool} {o1 o2 : τ} (h : TE t ρ M b M1) (h1 : b = true → Ok (s ρ M1) (Q o1)) (h2 : b = false → Ok (r ρ M1) (Q o2)) : Ok (sIf t s r ρ M) (Q (if b = true then o1 else o2)) := by
  unfold sIf
  rw [h, Res.bind_ok]
  cases b with
  | true => exact h1 rfl
  | false => exact h2 rfl
theorem ok_ifFSeq {τ : Type} {s s' r : SFn} {Q : τ → Out → Mem → Prop} {b : Bool} {o1 o2 : τ} (h : TE t ρ M b M1) (h1 : b = true → Ok (sSeq s r ρ M1) (Q o1)) (h2 : b = false → Ok (sSeq s' r ρ M1) (Q o2)) : Ok (sSeq (sIf t s s') r ρ M) (Q (if b = true then o1 else o2)) := by
  have : sSeq (sIf t s s') r ρ M = if b = true then sSeq s r ρ M1 else sSeq s' r ρ M1 := by
    unfold sSeq sIf
    rw [h, Res.bind_ok]
    cases b <;> rfl
  rw [this]
  cases b with
  | true => exact h1 rfl
  | false => exact h2 rfl
theorem ok_retF {R : Type} {M0 Rs : Mem} {k : Nat} {mem : R → Mem} {f : R → P} {v : R} (hk : M0.length = k) (hm : M0 = mem v) (h : EF φ ρ M (.p (f v)) (M0 ++ Rs)) : Ok (sRet φ ρ M) (KDf k mem (TDf f) v) := by
  obtain ⟨e, h1, h2⟩ := h
  rw [ok_sRet, h1]
  exact ⟨e, by rw [fin_stl h2, take_k hk, hm], h2⟩
theorem ok_retFN {R : Type} {M0 Rs : Mem} {k : Nat} {mem : R → Mem} {f : R → MObj} {v : R} (hk : M0.length = k) (hm : M0 = mem v) (h : EFN φ ρ M (f v) (M0 ++ Rs)) : Ok (sRet φ ρ M) (KDf k mem (TNf f) v) := by
  rw [ok_sRet, h]
  exact ⟨_, by rw [fin_new, take_k hk, hm], rfl⟩
/-! what is gone through, objects changed on the way -/
def IF {σ : Type} (ι : IFn) (ρ : Env) (M M1 : Mem) (mem : σ → Mem) (xs : List P) : Prop := ∃ st, ι ρ M = .ok st M1 ∧ ∀ (s : σ) (i : Nat), st i (mem s) = some xs[i]?
theorem if_il {σ : Type} {ι : IFn} {mem : σ → Mem} {xs : List P} (h : IL ι ρ M mem xs) : IF ι ρ M M mem xs := h
theorem if_tup {σ : Type} {mem : σ → Mem} {xs : List P} (h : EF φ ρ M (.p (.tuple xs)) M1) : IF (iE φ) ρ M M1 mem xs := ⟨stL xs, by unfold iE; rw [h.go]; rfl, fun _ _ => rfl⟩
theorem if_lst {σ : Type} {mem : σ → Mem} {xs : List P} (h : EF φ ρ M (.p (.list xs)) M1) : IF (iE φ) ρ M M1 mem xs := ⟨stL xs, by unfold iE; rw [h.go]; rfl, fun _ _ => rfl⟩
theorem if_range1 {σ : Type} {mem : σ → Mem} {i : Int} (h : AF αs ρ M [.p (.int i)] M1) (h1 : -1000000000000 ≤ i) (h2 : i ≤ 1000000000000) : IF (iRg rg1 αs) ρ M M1 mem (((List.range i.toNat).map Int.ofNat).map eInt.f) := ⟨stR 0 i.toNat, by
  unfold iRg
  rw [h, Res.bind_ok]
  simp only [rg1, small_of h1 h2, if_true, ofI], fun s j => by
  unfold stR
  by_cases z : j < i.toNat
  · rw [if_pos z, List.getElem?_map, List.getElem?_map, List.getElem?_range z]; simp
  · rw [if_neg z, List.getElem?_eq_none (by simpa using z)]⟩
end
section
variable {σ α R τ : Type} {ι : IFn} {γ : GFn} {body els rest : SFn} {ρ ρ0 : Env} {M M1 : Mem}
theorem ss_forF (xs : List α) (e : α → P) (f : σ → α → σ) (env : σ → Env) (mem : σ → Mem) (pre : σ → α → Prop) (s0 : σ) (hi : IF ι ρ M M1 mem (xs.map e)) (h0 : ρ = env s0) (hm : M1 = mem s0) (hn : xs.length ≤ sizeLine)
    (hb : ∀ s x, x ∈ xs → pre s x → ∃ ρ1, γ (e x) (env s) = some ρ1 ∧ Ok (body ρ1 (mem s)) (KL env mem (fun (_ : Empty) _ _ => False) (.nx (f s x)))) (hp : preF f pre xs s0) : SS (sFor ι γ body sNx) ρ M (env (xs.foldl f s0)) (mem (xs.foldl f s0)) := by
  obtain ⟨st, h1, h2⟩ := hi
  have := ss_for (ι := fun _ _ => .ok st M1) xs e f env mem pre s0 ⟨st, rfl, h2⟩ h0 hm hn hb hp
  unfold SS sFor at this ⊢
  rw [h1]
  exact this
theorem ok_forSeqF {Q : τ → Out → Mem → Prop} (xs : List α) (e : α → P) (f : σ → α → LS σ R) (env : σ → Env) (mem : σ → Mem) (pre : σ → α → Prop) (K : R → Out → Mem → Prop) (s0 : σ) (onx : σ → τ) (ort : R → τ) (hi : IF ι ρ M M1 mem (xs.map e)) (h0 : ρ = env s0) (hm : M1 = mem s0) (hn : xs.length ≤ sizeLine)
    (hb : ∀ s x, x ∈ xs → pre s x → ∃ ρ1, γ (e x) (env s) = some ρ1 ∧ Ok (body ρ1 (mem s)) (KL env mem K (f s x))) (hp : preR f pre xs s0)
    (hnx : ∀ s, forR f xs s0 = .nx s ∨ forR f xs s0 = .bk s → Ok (rest (env s) (mem s)) (Q (onx s))) (hrt : ∀ r e M', K r (.rt e) M' → Q (ort r) (.rt e) M') :
    Ok (sSeq (sFor ι γ body sNx) rest ρ M) (Q (LS.sel onx onx ort (forR f xs s0))) := by
  obtain ⟨st, h1, h2⟩ := hi
  have := ok_forSeq (ι := fun _ _ => .ok st M1) (rest := rest) (ρ := ρ) (M := M1) (Q := Q) xs e f env mem pre K s0 onx ort ⟨st, rfl, h2⟩ h0 hm hn hb hp hnx hrt
  have e : sSeq (sFor ι γ body sNx) rest ρ M = sSeq (sFor (fun _ _ => .ok st M1) γ body sNx) rest ρ M1 := by
    unfold sSeq sFor
    rw [h1]
  rw [e]; exact this
theorem ok_forLastF [DecidableEq α] {Q : τ → Out → Mem → Prop} (xs : List α) (e : α → P) (f : σ → α → LS σ R) (env : σ → Env) (mem : σ → Mem) (pre : σ → α → Prop) (K : R → Out → Mem → Prop) (s0 : σ) (onx : σ → τ) (ort : R → τ) (hi : IF ι ρ M M1 mem (xs.map e)) (h0 : ρ = env s0) (hm : M1 = mem s0) (hn : xs.length ≤ sizeLine)
    (hb : ∀ s x, x ∈ xs → pre s x → ∃ ρ1, γ (e x) (env s) = some ρ1 ∧ Ok (body ρ1 (mem s)) (KL env mem K (f s x))) (hp : preR f pre xs s0)
    (hnx : ∀ s, forR f xs s0 = .nx s ∨ forR f xs s0 = .bk s → Ok (sNx (env s) (mem s)) (Q (onx s))) (hrt : ∀ r e M', K r (.rt e) M' → Q (ort r) (.rt e) M') :
    Ok (sFor ι γ body sNx ρ M) (Q (LS.sel onx onx ort (forR f xs s0))) := by
  obtain ⟨st, h1, h2⟩ := hi
  have := ok_forLast (ι := fun _ _ => .ok st M1) (ρ := ρ) (M := M1) (Q := Q) xs e f env mem pre K s0 onx ort ⟨st, rfl, h2⟩ h0 hm hn hb hp hnx hrt
  have e : sFor ι γ body sNx ρ M = sFor (fun _ _ => .ok st M1) γ body sNx ρ M1 := by
    unfold sFor
    rw [h1]
  rw [e]; exact this
/-! comprehensions whose turns change objects -/
def lcS {σ α β : Type} (f : σ → α → Option β × σ) : List α → σ → List β × σ
  | [], s => ([], s)
  | x :: xs, s => match f s x with
    | (some y, s') => (y :: (lcS f xs s').1, (lcS f xs s').2)
    | (none, s') => lcS f xs s'
def preS {σ α β : Type} (f : σ → α → Option β × σ) (pre : σ → α → Prop) : List α → σ → Prop
  | [], _ => True
  | x :: xs, s => pre s x ∧ preS f pre xs (f s x).2
def LCB {σ β : Type} (t : TFn) (φ : PFn) (ρ : Env) (M : Mem) (e' : β → P) (mem : σ → Mem) (r : Option β × σ) : Prop := Ok (t ρ M) fun b M1 => if b = true then ∃ y ev, φ ρ M1 = .ok ev (mem r.2) ∧ ev.stl = .p (e' y) ∧ r.1 = some y else r.1 = none ∧ M1 = mem r.2
theorem lcb_if {σ β : Type} {t : TFn} {φ : PFn} {ρ : Env} {M : Mem} {e' : β → P} {mem : σ → Mem} {b : Bool} {y : β} {s1 s2 : σ} (h : TE t ρ M b (mem s1)) (h2 : b = true → EF φ ρ (mem s1) (.p (e' y)) (mem s2)) : LCB t φ ρ M e' mem (if b = true then (some y, s2) else (none, s1)) := by
  unfold LCB
  rw [h, Ok_ok]
  cases b with
  | true =>
    obtain ⟨ev, h3, h4⟩ := h2 rfl
    exact ⟨y, ev, h3, h4, rfl⟩
  | false => exact ⟨rfl, rfl⟩
theorem lcb_all {σ β : Type} {φ : PFn} {ρ : Env} {M : Mem} {e' : β → P} {mem : σ → Mem} {y : β} {s2 : σ} (h2 : EF φ ρ M (.p (e' y)) (mem s2)) : LCB tTrue φ ρ M e' mem (some y, s2) := by
  unfold LCB
  obtain ⟨ev, h3, h4⟩ := h2
  exact ⟨y, ev, h3, h4, rfl⟩
theorem efn_lcS {σ α β : Type} {ι : IFn} {γ : GFn} {t : TFn} {φ : PFn} {vs : List Nat} (xs : List α) (e : α → P) (f : σ → α → Option β × σ) (e' : β → P) (env : α → Env) (mem : σ → Mem) (pre : σ → α → Prop) (s0 : σ) (hi : IF ι ρ M M1 mem (xs.map e)) (hm : M1 = mem s0) (hn : xs.length ≤ sizeLine) (hg : ∀ a, a ∈ xs → γ (e a) (wipeE ρ vs) = some (env a))
    (hb : ∀ s a, a ∈ xs → pre s a → LCB t φ (env a) (mem s) e' mem (f s a)) (hp : preS f pre xs s0) : EFN (eLc ι γ t φ vs) ρ M (.lst ((lcS f xs s0).1.map e')) (mem (lcS f xs s0).2) := by
  obtain ⟨st, h1, h2⟩ := hi
  have key : ∀ (fu i : Nat) (ys : List α) (s : σ) (acc : List P), xs = xs.take i ++ ys → i + ys.length = xs.length → ys.length < fu → acc.length ≤ i → preS f pre ys s → lcL st γ t φ vs fu i acc ρ (mem s) = .ok (.new (.lst (acc ++ (lcS f ys s).1.map e'))) (mem (lcS f ys s).2) := by
    intro fu
    induction fu with
    | zero => intro i ys s acc _ _ h; omega
    | succ fu ih =>
      intro i ys s acc hx hl hf ha hpr
      unfold lcL
      rw [h2 s i, List.getElem?_map]
      cases ys with
      | nil =>
        have : xs[i]? = none := List.getElem?_eq_none (by simp at hl; omega)
        rw [this]
        simp [lcS]
      | cons x ys =>
        have hi : xs[i]? = some x := by
          rw [hx, List.getElem?_append_right (by rw [List.length_take]; omega), List.length_take]
          have : i - min i xs.length = 0 := by omega
          rw [this]; rfl
        rw [hi]
        simp only [Option.map_some]
        have hmem := List.mem_of_getElem? hi
        rw [hg x hmem]
        simp only
        have hnext : xs = xs.take (i + 1) ++ ys := by
          rw [List.take_add_one, hi]
          simpa using hx
        have hl2 : i + 1 + ys.length = xs.length := by simp at hl; omega
        have hf2 : ys.length < fu := by simp at hf; omega
        have hbx := hb s x hmem hpr.1
        have hpr2 := hpr.2
        unfold LCB at hbx
        obtain ⟨b, M', z1, z2⟩ := hbx.get
        rw [z1, ne_ok, Res.bind_ok]
        have el : lcS f (x :: ys) s = match f s x with
          | (some y, s') => (y :: (lcS f ys s').1, (lcS f ys s').2)
          | (none, s') => lcS f ys s' := rfl
        rw [el]
        cases w : f s x with
        | mk r s' =>
          rw [w] at z2 hpr2
          cases b with
          | false =>
            simp only [Bool.false_eq_true, if_false] at z2 ⊢
            obtain ⟨w1, w2⟩ := z2
            subst w1
            subst w2
            exact ih (i + 1) ys s' acc hnext hl2 hf2 (by omega) hpr2
          | true =>
            simp only [if_true] at z2 ⊢
            obtain ⟨y, ev, w1, w2, w3⟩ := z2
            subst w3
            rw [w1, stl_ok, w2, ne_ok, Res.bind_ok]
            simp only [pur_p]
            have hxl : (xs.take i).length = i := by rw [List.length_take]; omega
            rw [if_pos (by rw [sizeLine_eq] at hn ⊢; simp at hl; omega)]
            rw [ih (i + 1) ys s' (acc ++ [e' y]) hnext hl2 hf2 (by rw [List.length_append]; simpa using ha) hpr2]
            simp
  unfold EFN eLc
  rw [h1, Res.bind_ok, hm, key FUEL 0 xs s0 [] (by simp) (by simp) (by rw [sizeLine_eq] at hn; rw [FUEL_eq]; omega) (Nat.le_refl _) hp]
  simp
/-! while -/
def whF (c : σ → Bool) (f : σ → σ) : Nat → σ → σ
  | 0, s => s
  | n + 1, s => if c s = true then whF c f n (f s) else s
/-- the turns end, and each of them asks pre -/
def preW (c : σ → Bool) (f : σ → σ) (pt pre : σ → Prop) : Nat → σ → Prop
  | 0, s => pt s ∧ c s = false
  | n + 1, s => pt s ∧ (c s = true → pre s ∧ preW c f pt pre n (f s))
theorem ss_wh {t : TFn} (c : σ → Bool) (f : σ → σ) (env : σ → Env) (mem : σ → Mem) (pt pre : σ → Prop) (n : Nat) (s0 : σ) (h0 : ρ = env s0) (hm : M = mem s0) (hn : n ≤ sizeLine) (ht : ∀ s, pt s → TE t (env s) (mem s) (c s) (mem s))
    (hb : ∀ s, pre s → c s = true → Ok (body (env s) (mem s)) (KL env mem (fun (_ : Empty) _ _ => False) (.nx (f s)))) (hp : preW c f pt pre n s0) : SS (sWh t body sNx) ρ M (env (whF c f n s0)) (mem (whF c f n s0)) := by
  have key : ∀ (fu n : Nat) (s : σ), n < fu → preW c f pt pre n s → whL t body sNx fu (env s) (mem s) = .ok (.nx (env (whF c f n s))) (mem (whF c f n s)) := by
    intro fu
    induction fu with
    | zero => intro n s h; omega
    | succ fu ih =>
      intro n s hf hp
      unfold whL
      cases n with
      | zero =>
        obtain ⟨h1, h2⟩ := hp
        rw [ht s h1, Res.bind_ok, h2]
        rfl
      | succ n =>
        obtain ⟨h1, h2⟩ := hp
        rw [ht s h1, Res.bind_ok]
        unfold whF
        cases hc : c s with
        | false =>
          simp only [Bool.false_eq_true, if_false]; rfl
        | true =>
          simp only [if_true]
          obtain ⟨h3, h4⟩ := h2 hc
          obtain ⟨o, M', z1, z2, z3⟩ := (hb s h3 hc).get
          rw [z1, Res.bind_ok, z3]
          rcases z2 with z2 | z2 <;> rw [z2] <;> exact ih n (f s) (by omega) h4
  unfold SS sWh
  rw [h0, hm]
  exact key FUEL n s0 (by rw [sizeLine_eq] at hn; rw [FUEL_eq]; omega) hp
end
end Cb

set_option Elab.async false
set_option linter.all false
set_option maxRecDepth 100000
/-! Fz, part F: whole numbers, the script, further small words. -/
namespace Cb
open PySem PySem.Spec PyProof.Rows L2
open PySem.W (Datum DatumOrd Tup)
theorem iMul_c {i j : Int} (h : cMul i j = true) : ii iMul (.int i) (.int j) = some (.int (i * j)) := by
  show iMul i j = _
  unfold iMul; rw [if_pos h]
def powOk (i j : Int) : Prop := 0 ≤ j ∧ j ≤ 1000000 ∧ -18446744073709551616 < i ∧ i < 18446744073709551616
theorem iPow_c {i j : Int} (h : powOk i j) : ii iPow (.int i) (.int j) = some (.int (i ^ j.toNat)) := by
  obtain ⟨h1, h2, h3, h4⟩ := h
  obtain ⟨q, rfl⟩ := Int.eq_ofNat_of_zero_le h1
  exact iPow_ok h3 h4 (by omega)
theorem cMul_l {i j : Int} (h1 : -18446744073709551616 < i) (h2 : i < 18446744073709551616) : cMul i j = true := by
  unfold cMul
  have e : (2 : Int) ^ 64 = 18446744073709551616 := by decide
  rw [e, decide_eq_true h1, decide_eq_true h2]; rfl
def minI (i j : Int) : Int := if j < i then j else i
def maxI (i j : Int) : Int := if j > i then j else i
section
variable {α : Type} {ρ : Env} {M M1 : Mem} {φ : PFn}
theorem pv_dct {n : Nat} {xs : List (P × P)} (h : M[n]? = some (.dct xs)) : pv (.obj n) M = some (.dict xs) := by simp only [pv, h]
theorem ef_al {k : Nat} {o : MObj} {R : Mem} (hk : M1.length = k) (h : EFN φ ρ M o (M1 ++ R)) : EF (eAl φ) ρ M (.obj (k + R.length)) (M1 ++ (R ++ [o])) := by
  subst hk
  refine ⟨.d (.obj (M1.length + R.length)), ?_, rfl⟩
  unfold eAl
  rw [h, ← List.append_assoc, ← List.length_append]; rfl
theorem en_slFm {ns : List Int} {lo hi : OFn} {i j : Option Int} (h : ES φ ρ M (.frz (ns.map PyData.int))) (hl : OS lo ρ M i) (hu : OS hi ρ M j) : EN (eSl φ lo hi) ρ M (.lst ((cutE ns i j).map eInt.f)) := by
  have := en_slF h hl hu
  rw [cutP_map] at this; exact this
theorem preS_true {σ α β : Type} {f : σ → α → Option β × σ} : ∀ (xs : List α) (s : σ), preS f (fun _ _ => True) xs s
  | [], _ => trivial
  | x :: xs, s => ⟨trivial, preS_true xs _⟩
theorem ss_stoD {i n : Nat} {R1 : Mem} {kvs : List (P × P)} {k y : P} {q : Key} {φv : PFn} {N : Mem} {kvs' : List (P × P)} (hn : n < N.length) (hv : ρ[i]? = some (some (.obj n))) (h1 : EF φv ρ M (.p y) (N.set n (.dct kvs) ++ R1)) (hk : keyOf k = some q) (hl : kvs.length < sizeLine) (hd : dputP kvs k y = kvs') :
    SS (sSto (eVar i) (eD (.p k)) φv) ρ M ρ (N.set n (.dct kvs') ++ R1) := by
  unfold SS sSto
  rw [h1.go, Res.bind_ok, (es_var hv).go, Res.bind_ok, es_c.go, Res.bind_ok]
  unfold dSet
  simp only [pur_p, par_at hn, hk, if_pos hl, par_set hn, hd]
end
end Cb

set_option Elab.async false
set_option linter.all false
set_option maxRecDepth 100000
/-! defs of law_k18_losses_told: meaning, typed function, agreement (printed by fz.py) -/
namespace Fz
open PySem PySem.Spec PyProof.Rows L2 Cb
open PySem.W (Datum DatumOrd Tup)
noncomputable def φ_people_of : SFn :=
    sRet (eCallB bTuple (aCons (eSrtSc2 1 2 (eVar 0)) (aNil)))
noncomputable def fs_people_of : FS := defF 3 φ_people_of
def t_people_of (crews : (List (List Str))) : (List Str) := (srtE eStr (dd crews.flatten))
def pre_people_of (crews : (List (List Str))) : Prop := crews.flatten.length < 4000
theorem eq_people_of {M : Mem} (crews : (List (List Str))) (h : pre_people_of crews) : FS1 fs_people_of [.p ((eTu (eTu eStr)).f crews)] M (.p ((eTu eStr).f (t_people_of crews))) := by
  refine fs_of (f := (fun (r : (List Str)) => (eTu eStr).f r)) (v := (t_people_of crews)) (ρ := [some (.p ((eTu (eTu eStr)).f crews)), none, none]) rfl ?_
  exact ok_retE rfl rfl (es_tupL (ep_es (es_en (en_srtSc2 (es_var rfl) (by simp) (by simp) (h)))))
noncomputable def φ_require_people : SFn :=
    sSeq (sSet 2 (eCallU fs_people_of 1 0 [.at 0] (aCons (eVar 0) (aNil)) aNil))
    (sPre [3, 4] (sFor (iE (eVar 1)) (gNm 3)
    (sWp [3, 4] (sPre [4] (sFor (iE (eVar 3)) (gNm 4)
    (sWp [4] (sIf (tVal (eBin (onP gNotIn) (eVar 4) (eVar 2)))
    (sBad)
    (sNx)))
    (sNx))))
    (sNx)))
noncomputable def fb_require_people : FS := defF 5 φ_require_people
noncomputable def fs_require_people : FS := starF 1 fb_require_people
def t_require_people_b2 (crews : (List (List Str))) (lots : (List (List Str))) (s : Unit) (lot : (List Str)) (s2 : Unit) (name : Str) : Unit := ()
def pre_require_people_b2 (crews : (List (List Str))) (lots : (List (List Str))) (s : Unit) (lot : (List Str)) (s2 : Unit) (name : Str) : Prop := (!decide (name ∈ (t_people_of crews))) = false
def t_require_people_l2 (crews : (List (List Str))) (lots : (List (List Str))) (s : Unit) (lot : (List Str)) : Unit := lot.foldl (t_require_people_b2 crews lots s lot) ()
def t_require_people_b1 (crews : (List (List Str))) (lots : (List (List Str))) (s : Unit) (lot : (List Str)) : Unit := ()
def pre_require_people_b1 (crews : (List (List Str))) (lots : (List (List Str))) (s : Unit) (lot : (List Str)) : Prop := (lot.length ≤ sizeLine) ∧ (preF (t_require_people_b2 crews lots s lot) (pre_require_people_b2 crews lots s lot) lot ())
def t_require_people_l1 (crews : (List (List Str))) (lots : (List (List Str))) : Unit := lots.foldl (t_require_people_b1 crews lots) ()
def t_require_people (crews : (List (List Str))) (lots : (List (List Str))) : Unit := ()
def pre_require_people (crews : (List (List Str))) (lots : (List (List Str))) : Prop := (pre_people_of crews) ∧ ((lots.length ≤ sizeLine) ∧ (preF (t_require_people_b1 crews lots) (pre_require_people_b1 crews lots) lots ()))
theorem eq_require_people {M : Mem} (crews : (List (List Str))) (lots : (List (List Str))) (h : pre_require_people crews lots) : FS1 fb_require_people [.p ((eTu (eTu eStr)).f crews), .p ((eTu (eTu eStr)).f lots)] M (.p (eUnit.f (t_require_people crews lots))) := by
  refine fs_of (f := (fun (r : Unit) => eUnit.f r)) (v := (t_require_people crews lots)) (ρ := [some (.p ((eTu (eTu eStr)).f crews)), some (.p ((eTu (eTu eStr)).f lots)), none, none, none]) rfl ?_
  exact ok_seqS (ρ1 := [some (.p ((eTu (eTu eStr)).f crews)), some (.p ((eTu (eTu eStr)).f lots)), some (.p ((eTu eStr).f (t_people_of crews))), none, none]) (M1 := M ++ [])  (ss_set (es_call (as_cons (es_var (d := .p ((eTu (eTu eStr)).f crews)) rfl) (as_nil)) (as_nil) ⟨rfl, rfl⟩ (by rfl) (eq_people_of crews (h.1))))
    (ok_lastS (ρ1 := [some (.p ((eTu (eTu eStr)).f crews)), some (.p ((eTu (eTu eStr)).f lots)), some (.p ((eTu eStr).f (t_people_of crews))), none, none]) (M1 := M ++ []) (ss_pre (ss_for lots (eTu eStr).f (t_require_people_b1 crews lots) (fun (s : Unit) => [some (.p ((eTu (eTu eStr)).f crews)), some (.p ((eTu (eTu eStr)).f lots)), some (.p ((eTu eStr).f (t_people_of crews))), none, none]) (fun (s : Unit) => M ++ []) (pre_require_people_b1 crews lots) () (il_tup (es_var rfl)) rfl rfl (h.2.1) (fun s lot hx1 hs2 => ⟨_, rfl, ok_wp (ok_lastS (ρ1 := [some (.p ((eTu (eTu eStr)).f crews)), some (.p ((eTu (eTu eStr)).f lots)), some (.p ((eTu eStr).f (t_people_of crews))), some (.p ((eTu eStr).f lot)), none]) (M1 := M ++ []) (ss_pre (ss_for lot eStr.f (t_require_people_b2 crews lots s lot) (fun (s2 : Unit) => [some (.p ((eTu (eTu eStr)).f crews)), some (.p ((eTu (eTu eStr)).f lots)), some (.p ((eTu eStr).f (t_people_of crews))), some (.p ((eTu eStr).f lot)), none]) (fun (s2 : Unit) => M ++ []) (pre_require_people_b2 crews lots s lot) () (il_tup (es_var rfl)) rfl rfl (hs2.1) (fun s2 name hx3 hs4 => ⟨_, rfl, ok_wp (ok_ifNo (ts_val (es_onP (ep_es (es_var rfl)) (ep_es (es_var rfl)) (q_niT eStr (by decide) _ _))) (hs4) (kw_nx (M0 := M) (M1 := M) (Rs := []) (Rs' := []) (s := ()) rfl rfl rfl))⟩) (hs2.2))) (kw_nx (M0 := M) (M1 := M) (Rs := []) (Rs' := []) (s := ()) rfl rfl rfl))⟩) (h.2.2))) (ok_endNone rfl rfl rfl))
theorem eqv_require_people {M : Mem} (crews : (List (List Str))) (lots : (List (List Str))) (h : pre_require_people crews lots) (hz : lots.length ≤ sizeLine) : FS1 fs_require_people ([.p ((eTu (eTu eStr)).f crews)] ++ (lots.map (eTu eStr).f).map .p) M (.p (eUnit.f (t_require_people crews lots))) := fs_star (eq_require_people crews lots h) rfl (by rw [List.length_map]; exact hz)
noncomputable def φ_left_in : SFn :=
    sRet (eCallB bTuple (aCons (eLc (iE (eVar 0)) (gNm 2) (tVal (eCallB bAll (aCons (eLc (iE (eVar 2)) (gNm 3) (tTrue) (eBin (onP gIn) (eVar 3) (eVar 1)) [3]) (aNil)))) (eVar 2) [2]) (aNil)))
noncomputable def fs_left_in : FS := defF 4 φ_left_in
def t_left_in (crews : (List (List Str))) (present : (List Str)) : (List (List Str)) := (crews.filter (fun (crew : (List Str)) => ((crew.map (fun (person : Str) => (decide (person ∈ present)))).all id)))
def pre_left_in (crews : (List (List Str))) (present : (List Str)) : Prop := (crews.length ≤ sizeLine) ∧ (∀ crew ∈ crews, crew.length ≤ sizeLine)
theorem eq_left_in {M : Mem} (crews : (List (List Str))) (present : (List Str)) (h : pre_left_in crews present) : FS1 fs_left_in [.p ((eTu (eTu eStr)).f crews), .p ((eTu eStr).f present)] M (.p ((eTu (eTu eStr)).f (t_left_in crews present))) := by
  refine fs_of (f := (fun (r : (List (List Str))) => (eTu (eTu eStr)).f r)) (v := (t_left_in crews present)) (ρ := [some (.p ((eTu (eTu eStr)).f crews)), some (.p ((eTu eStr).f present)), none, none]) rfl ?_
  exact ok_retE rfl rfl (es_tupL (ep_es (es_en (en_f1 (en_lc crews (eTu eStr).f (fun (crew : (List Str)) => ((crew.map (fun (person : Str) => (decide (person ∈ present)))).all id)) (fun (crew : (List Str)) => crew) (eTu eStr).f (fun (crew : (List Str)) => [some (.p ((eTu (eTu eStr)).f crews)), some (.p ((eTu eStr).f present)), some (.p ((eTu eStr).f crew)), none]) (is_tup (es_var rfl)) (h.1) (fun _ _ => rfl) (fun crew hx5 => ts_val (es_all (ep_es (es_en (en_f3 (en_lc crew eStr.f (fun (person : Str) => true) (fun (person : Str) => (decide (person ∈ present))) eBool.f (fun (person : Str) => [some (.p ((eTu (eTu eStr)).f crews)), some (.p ((eTu eStr).f present)), some (.p ((eTu eStr).f crew)), some (.p (eStr.f person))]) (is_tup (es_var rfl)) ((h.2 crew hx5)) (fun _ _ => rfl) (fun person hx7 => ts_true) (fun person hx7 hb8 => es_onP (ep_es (es_var rfl)) (ep_es (es_var rfl)) (q_inT eStr (by decide) _ _)))))))) (fun crew hx5 hb6 => es_var rfl))))))
noncomputable def φ_present_without : SFn :=
    sRet (eCallB bTuple (aCons (eLc (iE (eVar 0)) (gNm 2) (tVal (eBin (onP gNotIn) (eVar 2) (eVar 1))) (eVar 2) [2]) (aNil)))
noncomputable def fb_present_without : FS := defF 3 φ_present_without
noncomputable def fs_present_without : FS := starF 1 fb_present_without
def t_present_without (present : (List Str)) (lost : (List Str)) : (List Str) := (present.filter (fun (person : Str) => (!decide (person ∈ lost))))
def pre_present_without (present : (List Str)) (lost : (List Str)) : Prop := present.length ≤ sizeLine
theorem eq_present_without {M : Mem} (present : (List Str)) (lost : (List Str)) (h : pre_present_without present lost) : FS1 fb_present_without [.p ((eTu eStr).f present), .p ((eTu eStr).f lost)] M (.p ((eTu eStr).f (t_present_without present lost))) := by
  refine fs_of (f := (fun (r : (List Str)) => (eTu eStr).f r)) (v := (t_present_without present lost)) (ρ := [some (.p ((eTu eStr).f present)), some (.p ((eTu eStr).f lost)), none]) rfl ?_
  exact ok_retE rfl rfl (es_tupL (ep_es (es_en (en_f1 (en_lc present eStr.f (fun (person : Str) => (!decide (person ∈ lost))) (fun (person : Str) => person) eStr.f (fun (person : Str) => [some (.p ((eTu eStr).f present)), some (.p ((eTu eStr).f lost)), some (.p (eStr.f person))]) (is_tup (es_var rfl)) (h) (fun _ _ => rfl) (fun person hx9 => ts_val (es_onP (ep_es (es_var rfl)) (ep_es (es_var rfl)) (q_niT eStr (by decide) _ _))) (fun person hx9 hb10 => es_var rfl))))))
theorem eqv_present_without {M : Mem} (present : (List Str)) (lost : (List Str)) (h : pre_present_without present lost) (hz : lost.length ≤ sizeLine) : FS1 fs_present_without ([.p ((eTu eStr).f present)] ++ (lost.map eStr.f).map .p) M (.p ((eTu eStr).f (t_present_without present lost))) := fs_star (eq_present_without present lost h) rfl (by rw [List.length_map]; exact hz)
noncomputable def φ_newcomers : SFn :=
    sRet (eCallB bTuple (aCons (eLc (iE (eVar 1)) (gNm 2) (tVal (eBin (onP gNotIn) (eVar 2) (eVar 0))) (eVar 2) [2]) (aNil)))
noncomputable def fs_newcomers : FS := defF 3 φ_newcomers
def t_newcomers (crew : (List Str)) (other : (List Str)) : (List Str) := (other.filter (fun (person : Str) => (!decide (person ∈ crew))))
def pre_newcomers (crew : (List Str)) (other : (List Str)) : Prop := other.length ≤ sizeLine
theorem eq_newcomers {M : Mem} (crew : (List Str)) (other : (List Str)) (h : pre_newcomers crew other) : FS1 fs_newcomers [.p ((eTu eStr).f crew), .p ((eTu eStr).f other)] M (.p ((eTu eStr).f (t_newcomers crew other))) := by
  refine fs_of (f := (fun (r : (List Str)) => (eTu eStr).f r)) (v := (t_newcomers crew other)) (ρ := [some (.p ((eTu eStr).f crew)), some (.p ((eTu eStr).f other)), none]) rfl ?_
  exact ok_retE rfl rfl (es_tupL (ep_es (es_en (en_f1 (en_lc other eStr.f (fun (person : Str) => (!decide (person ∈ crew))) (fun (person : Str) => person) eStr.f (fun (person : Str) => [some (.p ((eTu eStr).f crew)), some (.p ((eTu eStr).f other)), some (.p (eStr.f person))]) (is_tup (es_var rfl)) (h) (fun _ _ => rfl) (fun person hx11 => ts_val (es_onP (ep_es (es_var rfl)) (ep_es (es_var rfl)) (q_niT eStr (by decide) _ _))) (fun person hx11 hb12 => es_var rfl))))))
noncomputable def φ_followers_among : SFn :=
    sSeq (sIf (tVal (eBin (onP gNotIn) (eVar 2) (eVar 1)))
    (sRet (eTup (aCons (eVar 1) (aNil))))
    (sNx))
    (sRet (eCallB bTuple (aCons (eLc (iE (eVar 0)) (gNm 4) (tVal (eBin (onP gLe) (eCallB bLen (aCons (eCallU fs_newcomers 2 0 [.at 0, .at 1] (aCons (eVar 1) (aCons (eVar 4) (aNil))) aNil) (aNil))) (eVar 3))) (eVar 4) [4]) (aNil))))
noncomputable def fs_followers_among : FS := defF 5 φ_followers_among
def t_followers_among (left : (List (List Str))) (crew : (List Str)) (lost : Str) (width : Int) : (List (List Str)) := (if (!decide (lost ∈ crew)) = true then [crew] else (left.filter (fun (other : (List Str)) => (decide (((t_newcomers crew other).length : Int) ≤ width)))))
def pre_followers_among (left : (List (List Str))) (crew : (List Str)) (lost : Str) (width : Int) : Prop := (!decide (lost ∈ crew)) = false → (left.length ≤ sizeLine) ∧ (∀ other ∈ left, pre_newcomers crew other)
theorem eq_followers_among {M : Mem} (left : (List (List Str))) (crew : (List Str)) (lost : Str) (width : Int) (h : pre_followers_among left crew lost width) : FS1 fs_followers_among [.p ((eTu (eTu eStr)).f left), .p ((eTu eStr).f crew), .p (eStr.f lost), .p (eInt.f width)] M (.p ((eTu (eTu eStr)).f (t_followers_among left crew lost width))) := by
  refine fs_of (f := (fun (r : (List (List Str))) => (eTu (eTu eStr)).f r)) (v := (t_followers_among left crew lost width)) (ρ := [some (.p ((eTu (eTu eStr)).f left)), some (.p ((eTu eStr).f crew)), some (.p (eStr.f lost)), some (.p (eInt.f width)), none]) rfl ?_
  exact ok_ifSeq (Q := (KDf M.length (fun (_ : (List (List Str))) => M) (TDf (fun (r : (List (List Str))) => (eTu (eTu eStr)).f r)))) (ts_val (es_onP (ep_es (es_var rfl)) (ep_es (es_var rfl)) (q_niT eStr (by decide) _ _))) (fun hb13 => ok_retSeq (ok_retE rfl rfl (es_tup (as_cons (es_var (d := .p ((eTu eStr).f crew)) rfl) (as_nil)) (le_small (k := 1) rfl (by decide)))))
    (fun hb13 => ok_nxSeq (ok_retE rfl rfl (es_tupL (ep_es (es_en (en_f1 (en_lc left (eTu eStr).f (fun (other : (List Str)) => (decide (((t_newcomers crew other).length : Int) ≤ width))) (fun (other : (List Str)) => other) (eTu eStr).f (fun (other : (List Str)) => [some (.p ((eTu (eTu eStr)).f left)), some (.p ((eTu eStr).f crew)), some (.p (eStr.f lost)), some (.p (eInt.f width)), some (.p ((eTu eStr).f other))]) (is_tup (es_var rfl)) ((h hb13).1) (fun _ _ => rfl) (fun other hx14 => ts_val (es_onP (ep_es (es_lenT' (ep_es (es_call (as_cons (es_var (d := .p ((eTu eStr).f crew)) rfl) (as_cons (es_var (d := .p ((eTu eStr).f other)) rfl) (as_nil))) (as_nil) ⟨rfl, rfl⟩ (by rfl) (eq_newcomers crew other (((h hb13).2 other hx14))))))) (ep_es (es_var rfl)) (gLe_int _ _))) (fun other hx14 hb15 => es_var rfl))))))))
noncomputable def φ_loss_word : SFn :=
    sSeq (sDrop (eCallV fs_require_people (aCons (eVar 0) (aCons (eVar 1) (aCons (eVar 2) (aCons (eTup (aCons (eVar 3) (aNil))) (aNil)))))))
    (sSeq (sSet 5 (eCallU fs_left_in 2 0 [.at 0, .at 1] (aCons (eVar 0) (aCons (eCallV fs_present_without (aCons (eVar 1) (aCons (eVar 3) (aNil)))) (aNil))) aNil))
    (sSeq (sIf (tVal (eBin (onP gNotIn) (eVar 3) (eVar 2)))
    (sRet (eD (.p (.str "stays"))))
    (sNx))
    (sSeq (sIf (tVal (eBin (onP gEq) (eVar 5) (eTup (aNil))))
    (sRet (eD (.p (.str "over"))))
    (sNx))
    (sRet (eIf (tVal (eBin (onP gNe) (eCallU fs_followers_among 4 0 [.at 0, .at 1, .at 2, .at 3] (aCons (eVar 5) (aCons (eVar 2) (aCons (eVar 3) (aCons (eVar 4) (aNil))))) aNil) (eTup (aNil)))) (eD (.p (.str "open"))) (eD (.p (.str "stuck"))))))))
noncomputable def fs_loss_word : FS := defF 6 φ_loss_word
def t_loss_word (crews : (List (List Str))) (present : (List Str)) (crew : (List Str)) (lost : Str) (width : Int) : Str := (if (!decide (lost ∈ crew)) = true then ("stays" : Str) else (if (decide ((t_left_in crews (t_present_without present ([lost]))) = [])) = true then ("over" : Str) else (if (!decide ((t_followers_among (t_left_in crews (t_present_without present ([lost]))) crew lost width) = [])) = true then ("open" : Str) else ("stuck" : Str))))
def pre_loss_word (crews : (List (List Str))) (present : (List Str)) (crew : (List Str)) (lost : Str) (width : Int) : Prop := (pre_require_people crews ([present] ++ [crew] ++ [[lost]])) ∧ (((pre_present_without present ([lost])) ∧ (pre_left_in crews (t_present_without present ([lost])))) ∧ ((!decide (lost ∈ crew)) = false → (decide ((t_left_in crews (t_present_without present ([lost]))) = [])) = false → pre_followers_among (t_left_in crews (t_present_without present ([lost]))) crew lost width))
theorem eq_loss_word {M : Mem} (crews : (List (List Str))) (present : (List Str)) (crew : (List Str)) (lost : Str) (width : Int) (h : pre_loss_word crews present crew lost width) : FS1 fs_loss_word [.p ((eTu (eTu eStr)).f crews), .p ((eTu eStr).f present), .p ((eTu eStr).f crew), .p (eStr.f lost), .p (eInt.f width)] M (.p (eStr.f (t_loss_word crews present crew lost width))) := by
  refine fs_of (f := (fun (r : Str) => eStr.f r)) (v := (t_loss_word crews present crew lost width)) (ρ := [some (.p ((eTu (eTu eStr)).f crews)), some (.p ((eTu eStr).f present)), some (.p ((eTu eStr).f crew)), some (.p (eStr.f lost)), some (.p (eInt.f width)), none]) rfl ?_
  exact ok_seqS (ρ1 := [some (.p ((eTu (eTu eStr)).f crews)), some (.p ((eTu eStr).f present)), some (.p ((eTu eStr).f crew)), some (.p (eStr.f lost)), some (.p (eInt.f width)), none]) (M1 := M ++ [])  (ss_drop (es_callV (as_cons (es_var (d := .p ((eTu (eTu eStr)).f crews)) rfl) (as_cons (es_var (d := .p ((eTu eStr).f present)) rfl) (as_cons (es_var (d := .p ((eTu eStr).f crew)) rfl) (as_cons (es_tup (as_cons (es_var (d := .p (eStr.f lost)) rfl) (as_nil)) (le_small (k := 1) rfl (by decide))) (as_nil))))) (eqv_require_people crews ([present] ++ [crew] ++ [[lost]]) (h.1) (le_small (k := 3) rfl (by decide)))))
    (ok_seqS (ρ1 := [some (.p ((eTu (eTu eStr)).f crews)), some (.p ((eTu eStr).f present)), some (.p ((eTu eStr).f crew)), some (.p (eStr.f lost)), some (.p (eInt.f width)), some (.p ((eTu (eTu eStr)).f (t_left_in crews (t_present_without present ([lost])))))]) (M1 := M ++ [])  (ss_set (es_call (as_cons (es_var (d := .p ((eTu (eTu eStr)).f crews)) rfl) (as_cons (es_callV (as_cons (es_var (d := .p ((eTu eStr).f present)) rfl) (as_cons (es_var (d := .p (eStr.f lost)) rfl) (as_nil))) (eqv_present_without present ([lost]) (h.2.1.1) (le_small (k := 1) rfl (by decide)))) (as_nil))) (as_nil) ⟨rfl, rfl⟩ (by rfl) (eq_left_in crews (t_present_without present ([lost])) (h.2.1.2))))
    (ok_ifSeq (Q := (KDf M.length (fun (_ : Str) => M) (TDf (fun (r : Str) => eStr.f r)))) (ts_val (es_onP (ep_es (es_var rfl)) (ep_es (es_var rfl)) (q_niT eStr (by decide) _ _))) (fun hb16 => ok_retSeq (ok_retE rfl rfl (es_c)))
    (fun hb16 => ok_nxSeq (ok_ifSeq (Q := (KDf M.length (fun (_ : Str) => M) (TDf (fun (r : Str) => eStr.f r)))) (ts_val (es_onP (ep_es (es_var rfl)) (ep_es (es_tup (as_nil) (le_small (k := 0) rfl (by decide)))) (q_eq (eTu (eTu eStr)) (by decide) _ _))) (fun hb17 => ok_retSeq (ok_retE rfl rfl (es_c)))
    (fun hb17 => ok_nxSeq (ok_retE rfl rfl (es_if (fun x => .p (eStr.f x)) (ts_val (es_onP (ep_es (es_call (as_cons (es_var (d := .p ((eTu (eTu eStr)).f (t_left_in crews (t_present_without present ([lost]))))) rfl) (as_cons (es_var (d := .p ((eTu eStr).f crew)) rfl) (as_cons (es_var (d := .p (eStr.f lost)) rfl) (as_cons (es_var (d := .p (eInt.f width)) rfl) (as_nil))))) (as_nil) ⟨rfl, rfl⟩ (by rfl) (eq_followers_among (t_left_in crews (t_present_without present ([lost]))) crew lost width (((h.2.2 hb16) hb17))))) (ep_es (es_tup (as_nil) (le_small (k := 0) rfl (by decide)))) (q_ne (eTu (eTu eStr)) (by decide) _ _))) (fun hb18 => es_c) (fun hb18 => es_c))))))))
noncomputable def φ_answers : SFn :=
    sSeq (sDrop (eCallV fs_require_people (aCons (eVar 0) (aCons (eVar 1) (aCons (eVar 2) (aCons (eTup (aCons (eVar 3) (aNil))) (aNil)))))))
    (sSeq (sSet 5 (eCallU fs_left_in 2 0 [.at 0, .at 1] (aCons (eVar 0) (aCons (eCallV fs_present_without (aCons (eVar 1) (aCons (eVar 3) (aNil)))) (aNil))) aNil))
    (sRet (eIf (tVal (eBin (onP gIn) (eVar 3) (eVar 2))) (eCallU fs_followers_among 4 0 [.at 0, .at 1, .at 2, .at 3] (aCons (eVar 5) (aCons (eVar 2) (aCons (eVar 3) (aCons (eVar 4) (aNil))))) aNil) (eTup (aNil)))))
noncomputable def fs_answers : FS := defF 6 φ_answers
def t_answers (crews : (List (List Str))) (present : (List Str)) (crew : (List Str)) (lost : Str) (width : Int) : (List (List Str)) := (if (decide (lost ∈ crew)) = true then (t_followers_among (t_left_in crews (t_present_without present ([lost]))) crew lost width) else [])
def pre_answers (crews : (List (List Str))) (present : (List Str)) (crew : (List Str)) (lost : Str) (width : Int) : Prop := (pre_require_people crews ([present] ++ [crew] ++ [[lost]])) ∧ (((pre_present_without present ([lost])) ∧ (pre_left_in crews (t_present_without present ([lost])))) ∧ ((decide (lost ∈ crew)) = true → pre_followers_among (t_left_in crews (t_present_without present ([lost]))) crew lost width))
theorem eq_answers {M : Mem} (crews : (List (List Str))) (present : (List Str)) (crew : (List Str)) (lost : Str) (width : Int) (h : pre_answers crews present crew lost width) : FS1 fs_answers [.p ((eTu (eTu eStr)).f crews), .p ((eTu eStr).f present), .p ((eTu eStr).f crew), .p (eStr.f lost), .p (eInt.f width)] M (.p ((eTu (eTu eStr)).f (t_answers crews present crew lost width))) := by
  refine fs_of (f := (fun (r : (List (List Str))) => (eTu (eTu eStr)).f r)) (v := (t_answers crews present crew lost width)) (ρ := [some (.p ((eTu (eTu eStr)).f crews)), some (.p ((eTu eStr).f present)), some (.p ((eTu eStr).f crew)), some (.p (eStr.f lost)), some (.p (eInt.f width)), none]) rfl ?_
  exact ok_seqS (ρ1 := [some (.p ((eTu (eTu eStr)).f crews)), some (.p ((eTu eStr).f present)), some (.p ((eTu eStr).f crew)), some (.p (eStr.f lost)), some (.p (eInt.f width)), none]) (M1 := M ++ [])  (ss_drop (es_callV (as_cons (es_var (d := .p ((eTu (eTu eStr)).f crews)) rfl) (as_cons (es_var (d := .p ((eTu eStr).f present)) rfl) (as_cons (es_var (d := .p ((eTu eStr).f crew)) rfl) (as_cons (es_tup (as_cons (es_var (d := .p (eStr.f lost)) rfl) (as_nil)) (le_small (k := 1) rfl (by decide))) (as_nil))))) (eqv_require_people crews ([present] ++ [crew] ++ [[lost]]) (h.1) (le_small (k := 3) rfl (by decide)))))
    (ok_seqS (ρ1 := [some (.p ((eTu (eTu eStr)).f crews)), some (.p ((eTu eStr).f present)), some (.p ((eTu eStr).f crew)), some (.p (eStr.f lost)), some (.p (eInt.f width)), some (.p ((eTu (eTu eStr)).f (t_left_in crews (t_present_without present ([lost])))))]) (M1 := M ++ [])  (ss_set (es_call (as_cons (es_var (d := .p ((eTu (eTu eStr)).f crews)) rfl) (as_cons (es_callV (as_cons (es_var (d := .p ((eTu eStr).f present)) rfl) (as_cons (es_var (d := .p (eStr.f lost)) rfl) (as_nil))) (eqv_present_without present ([lost]) (h.2.1.1) (le_small (k := 1) rfl (by decide)))) (as_nil))) (as_nil) ⟨rfl, rfl⟩ (by rfl) (eq_left_in crews (t_present_without present ([lost])) (h.2.1.2))))
    (ok_retE rfl rfl (es_if (fun x => .p ((eTu (eTu eStr)).f x)) (ts_val (es_onP (ep_es (es_var rfl)) (ep_es (es_var rfl)) (q_inT eStr (by decide) _ _))) (fun hb19 => es_call (as_cons (es_var (d := .p ((eTu (eTu eStr)).f (t_left_in crews (t_present_without present ([lost]))))) rfl) (as_cons (es_var (d := .p ((eTu eStr).f crew)) rfl) (as_cons (es_var (d := .p (eStr.f lost)) rfl) (as_cons (es_var (d := .p (eInt.f width)) rfl) (as_nil))))) (as_nil) ⟨rfl, rfl⟩ (by rfl) (eq_followers_among (t_left_in crews (t_present_without present ([lost]))) crew lost width ((h.2.2 hb19)))) (fun hb19 => es_tup (as_nil) (le_small (k := 0) rfl (by decide))))))
end Fz

set_option Elab.async false
set_option linter.all false
set_option maxRecDepth 100000
/-! defs of law_k18_losses_told: meaning, typed function, agreement (printed by fz.py) -/
namespace Fz
open PySem PySem.Spec PyProof.Rows L2 Cb
open PySem.W (Datum DatumOrd Tup)
noncomputable def φ_law_feed : SFn :=
    sRet (eLst (aCons (eCallB bList (aCons (eSl (eVar 0) (oNone) (oSome (eD (.p (.int 63))))) (aNil))) (aCons (eD (.p (.int 0))) (aCons (eD (.p (.int 0))) (aCons (eD (.p (.int 0))) (aNil))))))
noncomputable def fs_law_feed : FS := defF 1 φ_law_feed
def t_law_feed (script : (List Int)) : ((List Int) × Int × Int × Int) := ((cutE script none (some (63 : Int))), (0 : Int), (0 : Int), (0 : Int))
theorem eq_law_feed {M : Mem} (script : (List Int)) : FN1 fs_law_feed [.frz (script.map PyData.int)] M (MObj.lst [(eLi eInt).f ((t_law_feed script)).1, eInt.f ((t_law_feed script)).2.1, eInt.f ((t_law_feed script)).2.2.1, eInt.f ((t_law_feed script)).2.2.2]) := by
  refine fn_of (f := (fun (r : ((List Int) × Int × Int × Int)) => MObj.lst [(eLi eInt).f (r).1, eInt.f (r).2.1, eInt.f (r).2.2.1, eInt.f (r).2.2.2])) (v := (t_law_feed script)) (ρ := [some (.frz (script.map PyData.int))]) rfl ?_
  exact ok_retN rfl rfl (en_lst (as_cons (es_en (en_listL (ep_es (es_en (en_slFm (es_var rfl) (os_none) (os_some (es_c))))))) (as_cons (es_c) (as_cons (es_c) (as_cons (es_c) (as_nil))))) (le_small (k := 4) rfl (by decide)))
noncomputable def φ_law_wide : SFn :=
    sSeq (sSet 0 (eTup (aCons (eTup (aCons (eD (.p (.str "a"))) (aCons (eD (.p (.str "c"))) (aCons (eD (.p (.str "p"))) (aNil))))) (aCons (eTup (aCons (eD (.p (.str "a"))) (aCons (eD (.p (.str "c"))) (aCons (eD (.p (.str "q"))) (aNil))))) (aCons (eTup (aCons (eD (.p (.str "a"))) (aCons (eD (.p (.str "c"))) (aCons (eD (.p (.str "r"))) (aNil))))) (aCons (eTup (aCons (eD (.p (.str "a"))) (aCons (eD (.p (.str "c"))) (aCons (eD (.p (.str "s"))) (aNil))))) (aCons (eTup (aCons (eD (.p (.str "a"))) (aCons (eD (.p (.str "p"))) (aCons (eD (.p (.str "q"))) (aCons (eD (.p (.str "y"))) (aNil)))))) (aNil))))))))
    (sRet (eBin dAdd (eVar 0) (eTup (aCons (eTup (aCons (eD (.p (.str "a"))) (aCons (eD (.p (.str "r"))) (aCons (eD (.p (.str "s"))) (aCons (eD (.p (.str "x"))) (aNil)))))) (aCons (eTup (aCons (eD (.p (.str "p"))) (aCons (eD (.p (.str "q"))) (aCons (eD (.p (.str "r"))) (aCons (eD (.p (.str "s"))) (aCons (eD (.p (.str "x"))) (aCons (eD (.p (.str "y"))) (aNil)))))))) (aNil))))))
noncomputable def fs_law_wide : FS := defF 1 φ_law_wide
def t_law_wide_x1  : (List (List Str)) := [[("a" : Str), ("c" : Str), ("p" : Str)], [("a" : Str), ("c" : Str), ("q" : Str)], [("a" : Str), ("c" : Str), ("r" : Str)], [("a" : Str), ("c" : Str), ("s" : Str)], [("a" : Str), ("p" : Str), ("q" : Str), ("y" : Str)]]
def t_law_wide  : (List (List Str)) := ((t_law_wide_x1) ++ [[("a" : Str), ("r" : Str), ("s" : Str), ("x" : Str)], [("p" : Str), ("q" : Str), ("r" : Str), ("s" : Str), ("x" : Str), ("y" : Str)]])
def pre_law_wide  : Prop := (t_law_wide_x1).length + [[("a" : Str), ("r" : Str), ("s" : Str), ("x" : Str)], [("p" : Str), ("q" : Str), ("r" : Str), ("s" : Str), ("x" : Str), ("y" : Str)]].length ≤ sizeLine
theorem eq_law_wide {M : Mem}  (h : pre_law_wide ) : FS1 fs_law_wide [] M (.p ((eTu (eTu eStr)).f (t_law_wide ))) := by
  refine fs_of (f := (fun (r : (List (List Str))) => (eTu (eTu eStr)).f r)) (v := (t_law_wide )) (ρ := [none]) rfl ?_
  exact ok_seqS (ρ1 := [some (.p ((eTu (eTu eStr)).f (t_law_wide_x1)))]) (M1 := M ++ [])  (ss_set (es_tup (as_cons (es_tup (as_cons (es_c) (as_cons (es_c) (as_cons (es_c) (as_nil)))) (le_small (k := 3) rfl (by decide))) (as_cons (es_tup (as_cons (es_c) (as_cons (es_c) (as_cons (es_c) (as_nil)))) (le_small (k := 3) rfl (by decide))) (as_cons (es_tup (as_cons (es_c) (as_cons (es_c) (as_cons (es_c) (as_nil)))) (le_small (k := 3) rfl (by decide))) (as_cons (es_tup (as_cons (es_c) (as_cons (es_c) (as_cons (es_c) (as_nil)))) (le_small (k := 3) rfl (by decide))) (as_cons (es_tup (as_cons (es_c) (as_cons (es_c) (as_cons (es_c) (as_cons (es_c) (as_nil))))) (le_small (k := 4) rfl (by decide))) (as_nil)))))) (le_small (k := 5) rfl (by decide))))
    (ok_retE rfl rfl (es_addT (eTu eStr) (ep_es (es_var rfl)) (ep_es (es_tup (as_cons (es_tup (as_cons (es_c) (as_cons (es_c) (as_cons (es_c) (as_cons (es_c) (as_nil))))) (le_small (k := 4) rfl (by decide))) (as_cons (es_tup (as_cons (es_c) (as_cons (es_c) (as_cons (es_c) (as_cons (es_c) (as_cons (es_c) (as_cons (es_c) (as_nil))))))) (le_small (k := 6) rfl (by decide))) (as_nil))) (le_small (k := 2) rfl (by decide)))) (h)))
noncomputable def φ_law_folk : SFn :=
    sSeq (sSet 1 (eAl (eDNew)))
    (sSeq (sPre [2, 3] (sFor (iE (eVar 0)) (gNm 2)
    (sWp [2, 3] (sPre [3] (sFor (iE (eVar 2)) (gNm 3)
    (sWp [3] (sSto (eVar 1) (eVar 3) (eD (.p (.bool true)))))
    (sNx))))
    (sNx)))
    (sRet (eCallB bTuple (aCons (eCallB bSrtU (aCons (eVar 1) (aNil))) (aNil)))))
noncomputable def fs_law_folk : FS := defF 4 φ_law_folk
def t_law_folk_b2 (teams_here : (List (List Str))) (s : (List (Str × Bool))) (team : (List Str)) (s2 : (List (Str × Bool))) (name : Str) : (List (Str × Bool)) := (dput s2 name true)
def pre_law_folk_b2 (teams_here : (List (List Str))) (s : (List (Str × Bool))) (team : (List Str)) (s2 : (List (Str × Bool))) (name : Str) : Prop := s2.length < sizeLine
def t_law_folk_l2 (teams_here : (List (List Str))) (s : (List (Str × Bool))) (team : (List Str)) : (List (Str × Bool)) := team.foldl (t_law_folk_b2 teams_here s team) s
def t_law_folk_b1 (teams_here : (List (List Str))) (s : (List (Str × Bool))) (team : (List Str)) : (List (Str × Bool)) := (t_law_folk_l2 teams_here s team)
def pre_law_folk_b1 (teams_here : (List (List Str))) (s : (List (Str × Bool))) (team : (List Str)) : Prop := (team.length ≤ sizeLine) ∧ (preF (t_law_folk_b2 teams_here s team) (pre_law_folk_b2 teams_here s team) team s)
def t_law_folk_l1 (teams_here : (List (List Str))) : (List (Str × Bool)) := teams_here.foldl (t_law_folk_b1 teams_here) []
def t_law_folk (teams_here : (List (List Str))) : (List Str) := (srtE eStr ((t_law_folk_l1 teams_here).map (·.1)))
def pre_law_folk (teams_here : (List (List Str))) : Prop := ((teams_here.length ≤ sizeLine) ∧ (preF (t_law_folk_b1 teams_here) (pre_law_folk_b1 teams_here) teams_here [])) ∧ ((t_law_folk_l1 teams_here).length < 64 ∧ ∀ x ∈ (t_law_folk_l1 teams_here), x.1.length ≤ 1000)
theorem eq_law_folk {M : Mem} (teams_here : (List (List Str))) (h : pre_law_folk teams_here) : FS1 fs_law_folk [.p ((eTu (eTu eStr)).f teams_here)] M (.p ((eTu eStr).f (t_law_folk teams_here))) := by
  refine fs_of (f := (fun (r : (List Str)) => (eTu eStr).f r)) (v := (t_law_folk teams_here)) (ρ := [some (.p ((eTu (eTu eStr)).f teams_here)), none, none, none]) rfl ?_
  exact ok_seqS (ρ1 := [some (.p ((eTu (eTu eStr)).f teams_here)), some (.obj (M.length + 0)), none, none]) (M1 := M ++ [MObj.dct ([].map (encKV eStr eBool))])  (ss_new (M := M) (R := []) (k := M.length) rfl en_dnew)
    (ok_seqS (ρ1 := [some (.p ((eTu (eTu eStr)).f teams_here)), some (.obj (M.length + 0)), none, none]) (M1 := M ++ [MObj.dct ((t_law_folk_l1 teams_here).map (encKV eStr eBool))])  (ss_pre (ss_for teams_here (eTu eStr).f (t_law_folk_b1 teams_here) (fun (s : (List (Str × Bool))) => [some (.p ((eTu (eTu eStr)).f teams_here)), some (.obj (M.length + 0)), none, none]) (fun (s : (List (Str × Bool))) => M ++ [MObj.dct (s.map (encKV eStr eBool))]) (pre_law_folk_b1 teams_here) [] (il_tup (es_var rfl)) rfl rfl (h.1.1) (fun s team hx1 hs2 => ⟨_, rfl, ok_wp (ok_lastS (ρ1 := [some (.p ((eTu (eTu eStr)).f teams_here)), some (.obj (M.length + 0)), some (.p ((eTu eStr).f team)), none]) (M1 := M ++ [MObj.dct ((t_law_folk_l2 teams_here s team).map (encKV eStr eBool))]) (ss_pre (ss_for team eStr.f (t_law_folk_b2 teams_here s team) (fun (s2 : (List (Str × Bool))) => [some (.p ((eTu (eTu eStr)).f teams_here)), some (.obj (M.length + 0)), some (.p ((eTu eStr).f team)), none]) (fun (s2 : (List (Str × Bool))) => M ++ [MObj.dct (s2.map (encKV eStr eBool))]) (pre_law_folk_b2 teams_here s team) s (il_tup (es_var rfl)) rfl rfl (hs2.1) (fun s2 name hx3 hs4 => ⟨_, rfl, ok_wp (ok_lastS (ρ1 := [some (.p ((eTu (eTu eStr)).f teams_here)), some (.obj (M.length + 0)), some (.p ((eTu eStr).f team)), some (.p (eStr.f name))]) (M1 := M ++ [MObj.dct ((dput s2 name true).map (encKV eStr eBool))]) (ss_putS (j := 0) rfl eBool rfl rfl (es_c) (es_var rfl) (hs4)) (kw_nx (M0 := M) (M1 := M) (Rs := [MObj.dct (s2.map (encKV eStr eBool))]) (Rs' := [MObj.dct ((dput s2 name true).map (encKV eStr eBool))]) (s := (dput s2 name true)) rfl (by simp only [wipeE_cons, wipeE_nil, List.set_cons_zero, List.set_cons_succ, trim_p, trim_none, trim_nil, trim_frz, trim_obj (M0 := M) (Rs := [MObj.dct (s2.map (encKV eStr eBool))]) (j := 0) (k := M.length) rfl (by simp)] <;> rfl) rfl))⟩) (hs2.2))) (kw_nx (M0 := M) (M1 := M) (Rs := [MObj.dct (s.map (encKV eStr eBool))]) (Rs' := [MObj.dct ((t_law_folk_l2 teams_here s team).map (encKV eStr eBool))]) (s := (t_law_folk_l2 teams_here s team)) rfl (by simp only [wipeE_cons, wipeE_nil, List.set_cons_zero, List.set_cons_succ, trim_p, trim_none, trim_nil, trim_frz, trim_obj (M0 := M) (Rs := [MObj.dct (s.map (encKV eStr eBool))]) (j := 0) (k := M.length) rfl (by simp)] <;> rfl) rfl))⟩) (h.1.2)))
    (ok_retE rfl rfl (es_tupL (ep_es (es_en (en_srtD (ev := eBool) (ep_dct rfl ((obj_at rfl).trans rfl)) (h.2)))))))
noncomputable def φ_law_is_part : SFn :=
    sRet (eBin (onP gEq) (eLc (iE (eVar 0)) (gNm 2) (tVal (eBin (onP gNotIn) (eVar 2) (eVar 1))) (eVar 2) [2]) (eLst (aNil)))
noncomputable def fs_law_is_part : FS := defF 3 φ_law_is_part
def t_law_is_part (some_ : (List Str)) (others : (List Str)) : Bool := (decide ((some_.filter (fun (one : Str) => (!decide (one ∈ others)))) = ([] : List Str)))
def pre_law_is_part (some_ : (List Str)) (others : (List Str)) : Prop := some_.length ≤ sizeLine
theorem eq_law_is_part {M : Mem} (some_ : (List Str)) (others : (List Str)) (h : pre_law_is_part some_ others) : FS1 fs_law_is_part [.p ((eTu eStr).f some_), .p ((eTu eStr).f others)] M (.p (eBool.f (t_law_is_part some_ others))) := by
  refine fs_of (f := (fun (r : Bool) => eBool.f r)) (v := (t_law_is_part some_ others)) (ρ := [some (.p ((eTu eStr).f some_)), some (.p ((eTu eStr).f others)), none]) rfl ?_
  exact ok_retE rfl rfl (es_onP (ep_es (es_en (en_f1 (en_lc some_ eStr.f (fun (one : Str) => (!decide (one ∈ others))) (fun (one : Str) => one) eStr.f (fun (one : Str) => [some (.p ((eTu eStr).f some_)), some (.p ((eTu eStr).f others)), some (.p (eStr.f one))]) (is_tup (es_var rfl)) (h) (fun _ _ => rfl) (fun one hx5 => ts_val (es_onP (ep_es (es_var rfl)) (ep_es (es_var rfl)) (q_niT eStr (by decide) _ _))) (fun one hx5 hb6 => es_var rfl))))) (ep_es (es_en (en_lst (as_nil) (le_small (k := 0) rfl (by decide))))) (q_eq (eLi eStr) (by decide) _ _))
noncomputable def φ_law_minimal : SFn :=
    sSeq (sSet 1 (eAl (eLst (aNil))))
    (sSeq (sPre [2] (sFor (iE (eSrtLen (eSrtSet (eVar 0)))) (gNm 2)
    (sWp [2] (sIf (tVal (eBin (onP gEq) (eLc (iE (eVar 1)) (gNm 3) (tVal (eCallU fs_law_is_part 2 0 [.at 0, .at 1] (aCons (eVar 3) (aCons (eVar 2) (aNil))) aNil)) (eVar 3) [3]) (eLst (aNil))))
    (sDrop (eMth gmAppend (eVar 1) (aCons (eVar 2) (aNil))))
    (sNx)))
    (sNx)))
    (sFr 1 (sRet (eCallB bTuple (aCons (eCallB bSrtU (aCons (eSl (eVar 1) (oNone) (oSome (eD (.p (.int 12))))) (aNil))) (aNil))))))
noncomputable def fs_law_minimal : FS := defF 4 φ_law_minimal
def t_law_minimal_b1 (sets : (List (List Str))) (s : (List (List Str))) (some_ : (List Str)) : (List (List Str)) := (if (decide ((s.filter (fun (one : (List Str)) => (t_law_is_part one some_))) = ([] : List (List Str)))) = true then (s ++ [some_]) else s)
def pre_law_minimal_b1 (sets : (List (List Str))) (s : (List (List Str))) (some_ : (List Str)) : Prop := ((s.length ≤ sizeLine) ∧ (∀ one ∈ s, pre_law_is_part one some_)) ∧ ((decide ((s.filter (fun (one : (List Str)) => (t_law_is_part one some_))) = ([] : List (List Str)))) = true → s.length < sizeLine)
def t_law_minimal_l1 (sets : (List (List Str))) : (List (List Str)) := (srtLenE (srtE (eTu eStr) (dd sets))).foldl (t_law_minimal_b1 sets) ([] : List (List Str))
def t_law_minimal (sets : (List (List Str))) : (List (List Str)) := (srtE (eTu eStr) (cutE (t_law_minimal_l1 sets) none (some (12 : Int))))
def pre_law_minimal (sets : (List (List Str))) : Prop := ((sets.length < 64 ∧ ∀ z ∈ sets, z ≠ []) ∧ ((srtLenE (srtE (eTu eStr) (dd sets))).length ≤ sizeLine) ∧ (preF (t_law_minimal_b1 sets) (pre_law_minimal_b1 sets) (srtLenE (srtE (eTu eStr) (dd sets))) ([] : List (List Str)))) ∧ (∀ z ∈ (cutE (t_law_minimal_l1 sets) none (some (12 : Int))), z ≠ [])
theorem eq_law_minimal {M : Mem} (sets : (List (List Str))) (h : pre_law_minimal sets) : FS1 fs_law_minimal [.p ((eLi (eTu eStr)).f sets)] M (.p ((eTu (eTu eStr)).f (t_law_minimal sets))) := by
  refine fs_of (f := (fun (r : (List (List Str))) => (eTu (eTu eStr)).f r)) (v := (t_law_minimal sets)) (ρ := [some (.p ((eLi (eTu eStr)).f sets)), none, none, none]) rfl ?_
  exact ok_seqS (ρ1 := [some (.p ((eLi (eTu eStr)).f sets)), some (.obj (M.length + 0)), none, none]) (M1 := M ++ [MObj.lst (([] : List (List Str)).map (eTu eStr).f)])  (ss_new (M := M) (R := []) (k := M.length) (o := MObj.lst (([] : List (List Str)).map (eTu eStr).f)) rfl (en_lst (as_nil) (le_small (k := 0) rfl (by decide))))
    (ok_seqS (ρ1 := [some (.p ((eLi (eTu eStr)).f sets)), some (.obj (M.length + 0)), none, none]) (M1 := M ++ [MObj.lst ((t_law_minimal_l1 sets).map (eTu eStr).f)])  (ss_pre (ss_for (srtLenE (srtE (eTu eStr) (dd sets))) (eTu eStr).f (t_law_minimal_b1 sets) (fun (s : (List (List Str))) => [some (.p ((eLi (eTu eStr)).f sets)), some (.obj (M.length + 0)), none, none]) (fun (s : (List (List Str))) => M ++ [MObj.lst (s.map (eTu eStr).f)]) (pre_law_minimal_b1 sets) ([] : List (List Str)) (il_lst (es_en (en_srtLenT eStr (by decide) (ep_es (es_en (en_srtSetT (ep_es (es_var rfl)) (.inr rfl) (h.1.1)))) (.inr rfl)))) rfl rfl (h.1.2.1) (fun s some_ hx7 hs8 => ⟨_, rfl, ok_wp (ok_ifS (Q := (fun (o : (List (List Str))) => KW (M ++ [MObj.lst (s.map (eTu eStr).f)]).length [2] (KL (fun (s : (List (List Str))) => [some (.p ((eLi (eTu eStr)).f sets)), some (.obj (M.length + 0)), none, none]) (fun (s : (List (List Str))) => M ++ [MObj.lst (s.map (eTu eStr).f)]) (fun (_ : Empty) _ _ => False) (LS.nx o)))) (ts_val (es_onP (ep_es (es_en (en_f1 (en_lc s (eTu eStr).f (fun (one : (List Str)) => (t_law_is_part one some_)) (fun (one : (List Str)) => one) (eTu eStr).f (fun (one : (List Str)) => [some (.p ((eLi (eTu eStr)).f sets)), some (.obj (M.length + 0)), some (.p ((eTu eStr).f some_)), some (.p ((eTu eStr).f one))]) (is_obj rfl ((obj_at rfl).trans rfl)) (hs8.1.1) (fun _ _ => rfl) (fun one hx10 => ts_val (es_call (as_cons (es_var (d := .p ((eTu eStr).f one)) rfl) (as_cons (es_var (d := .p ((eTu eStr).f some_)) rfl) (as_nil))) (as_nil) ⟨rfl, rfl⟩ (by rfl) (eq_law_is_part one some_ ((hs8.1.2 one hx10))))) (fun one hx10 hb11 => es_var rfl))))) (ep_es (es_en (en_lst (as_nil) (le_small (k := 0) rfl (by decide))))) (q_eq (eLi (eTu eStr)) (by decide) _ _))) (fun hb9 => ok_lastS (ρ1 := [some (.p ((eLi (eTu eStr)).f sets)), some (.obj (M.length + 0)), some (.p ((eTu eStr).f some_)), none]) (M1 := M ++ [MObj.lst ((s ++ [some_]).map (eTu eStr).f)]) (ss_app (j := 0) rfl (eTu eStr) rfl rfl (es_var rfl) ((hs8.2 hb9))) (kw_nx (M0 := M) (M1 := M) (Rs := [MObj.lst (s.map (eTu eStr).f)]) (Rs' := [MObj.lst ((s ++ [some_]).map (eTu eStr).f)]) (s := (s ++ [some_])) rfl (by simp only [wipeE_cons, wipeE_nil, List.set_cons_zero, List.set_cons_succ, trim_p, trim_none, trim_nil, trim_frz, trim_obj (M0 := M) (Rs := [MObj.lst (s.map (eTu eStr).f)]) (j := 0) (k := M.length) rfl (by simp)] <;> rfl) rfl))
    (fun hb9 => kw_nx (M0 := M) (M1 := M) (Rs := [MObj.lst (s.map (eTu eStr).f)]) (Rs' := [MObj.lst (s.map (eTu eStr).f)]) (s := s) rfl (by simp only [wipeE_cons, wipeE_nil, List.set_cons_zero, List.set_cons_succ, trim_p, trim_none, trim_nil, trim_frz, trim_obj (M0 := M) (Rs := [MObj.lst (s.map (eTu eStr).f)]) (j := 0) (k := M.length) rfl (by simp)] <;> rfl) rfl))⟩) (h.1.2.2)))
    (ok_frL rfl rfl rfl (ok_retE rfl rfl (es_tupL (ep_es (es_en (en_srt (oTu oStr) (by decide) (ep_es (es_en (en_slL (eTu eStr) (ep_es (es_var rfl)) (os_none) (os_some (es_c))))) (.inr rfl) (.inl (tup1_ne (h.2))))))))))
noncomputable def φ_law_draw : SFn :=
    sSeq (sSto (eVar 0) (eD (.p (.int 3))) (eBin dAdd (eBin dSub (eVar 0) (eD (.p (.int 3)))) (eD (.p (.int 1)))))
    (sSeq (sIf (tVal (eBin (onP gGt) (eBin dSub (eVar 0) (eD (.p (.int 2)))) (eD (.p (.int 0)))))
    (sSeq (sSet 2 (eBin (onP (ii iMod)) (eBin dSub (eVar 0) (eD (.p (.int 2)))) (eVar 1)))
    (sSeq (sSto (eVar 0) (eD (.p (.int 2))) (eBin (onP (ii iDiv)) (eBin dSub (eVar 0) (eD (.p (.int 2)))) (eVar 1)))
    (sRet (eVar 2))))
    (sNx))
    (sSeq (sSet 3 (eIf (tVal (eBin (onP gNe) (eBin dSub (eVar 0) (eD (.p (.int 0)))) (eLst (aNil)))) (eBin dSub (eBin dSub (eVar 0) (eD (.p (.int 0)))) (eBin (onP (ii iMod)) (eBin dSub (eVar 0) (eD (.p (.int 1)))) (eCallB bLen (aCons (eBin dSub (eVar 0) (eD (.p (.int 0)))) (aNil))))) (eD (.p (.int 31)))))
    (sSeq (sSto (eVar 0) (eD (.p (.int 1))) (eBin dAdd (eBin dSub (eVar 0) (eD (.p (.int 1)))) (eD (.p (.int 1)))))
    (sSeq (sIf (tAnd (tVal (eBin (onP gGe) (eVar 3) (eBin (onP (ii iPow)) (eD (.p (.int 10))) (eD (.p (.int 18)))))) (tVal (eBin (onP gLe) (eBin dSub (eVar 0) (eD (.p (.int 1)))) (eCallB bLen (aCons (eBin dSub (eVar 0) (eD (.p (.int 0)))) (aNil))))))
    (sSeq (sSto (eVar 0) (eD (.p (.int 2))) (eBin (onP (ii iDiv)) (eVar 3) (eVar 1)))
    (sRet (eBin (onP (ii iMod)) (eVar 3) (eVar 1))))
    (sNx))
    (sSeq (sSet 4 (eBin (onP (ii iMod)) (eBin (onP (ii iPow)) (eBin dAdd (eBin dAdd (eBin (onP (ii iMod)) (eVar 3) (eD (.p (.int 1000005209)))) (eBin (onP (ii iMul)) (eBin (onP (ii iMul)) (eD (.p (.int 137))) (eBin dSub (eVar 0) (eD (.p (.int 3))))) (eBin dAdd (eBin dSub (eVar 0) (eD (.p (.int 3)))) (eD (.p (.int 3)))))) (eD (.p (.int 19)))) (eD (.p (.int 5)))) (eD (.p (.int 2147483237)))))
    (sRet (eBin (onP (ii iMod)) (eBin (onP (ii iDiv)) (eBin (onP (ii iMod)) (eBin (onP (ii iPow)) (eBin dAdd (eBin (onP (ii iMul)) (eVar 4) (eBin dAdd (eBin (onP (ii iMul)) (eD (.p (.int 2))) (eBin dSub (eVar 0) (eD (.p (.int 3))))) (eD (.p (.int 7))))) (eBin (onP (ii iMul)) (eD (.p (.int 60133))) (eBin dSub (eVar 0) (eD (.p (.int 3)))))) (eD (.p (.int 3)))) (eD (.p (.int 2147483179)))) (eD (.p (.int 64)))) (eVar 1))))))))
noncomputable def fs_law_draw : FS := defF 5 φ_law_draw
def t_law_draw_x1 (feed_here : ((List Int) × Int × Int × Int)) (limit : Int) : Int := (if (!decide ((feed_here).1 = ([] : List Int))) = true then (ixE (feed_here).1 ((feed_here).2.1 % ((feed_here).1.length : Int))) else (31 : Int))
def t_law_draw_x2 (feed_here : ((List Int) × Int × Int × Int)) (limit : Int) : Int := ((((((t_law_draw_x1 feed_here limit) % (1000005209 : Int)) + (((137 : Int) * ((feed_here).2.2.2 + (1 : Int))) * (((feed_here).2.2.2 + (1 : Int)) + (3 : Int)))) + (19 : Int)) ^ ((5 : Int)).toNat) % (2147483237 : Int))
def t_law_draw (feed_here : ((List Int) × Int × Int × Int)) (limit : Int) : (Int × ((List Int) × Int × Int × Int)) := (if (decide ((0 : Int) < (feed_here).2.2.1)) = true then (((feed_here).2.2.1 % limit), ((feed_here).1, (feed_here).2.1, ((feed_here).2.2.1 / limit), ((feed_here).2.2.2 + (1 : Int)))) else (if ((decide (((10 : Int) ^ ((18 : Int)).toNat) ≤ (t_law_draw_x1 feed_here limit))) && (decide (((feed_here).2.1 + (1 : Int)) ≤ ((feed_here).1.length : Int)))) = true then (((t_law_draw_x1 feed_here limit) % limit), ((feed_here).1, ((feed_here).2.1 + (1 : Int)), ((t_law_draw_x1 feed_here limit) / limit), ((feed_here).2.2.2 + (1 : Int)))) else ((((((((t_law_draw_x2 feed_here limit) * (((2 : Int) * ((feed_here).2.2.2 + (1 : Int))) + (7 : Int))) + ((60133 : Int) * ((feed_here).2.2.2 + (1 : Int)))) ^ ((3 : Int)).toNat) % (2147483179 : Int)) / (64 : Int)) % limit), ((feed_here).1, ((feed_here).2.1 + (1 : Int)), (feed_here).2.2.1, ((feed_here).2.2.2 + (1 : Int))))))
def pre_law_draw (feed_here : ((List Int) × Int × Int × Int)) (limit : Int) : Prop := ((decide ((0 : Int) < (feed_here).2.2.1)) = true → (0 < limit) ∧ (0 < limit ∧ limit < 1073741824)) ∧ ((decide ((0 : Int) < (feed_here).2.2.1)) = false → ((!decide ((feed_here).1 = ([] : List Int))) = true → (0 < ((feed_here).1.length : Int)) ∧ ((atI (feed_here).1 ((feed_here).2.1 % ((feed_here).1.length : Int))).isSome = true)) ∧ ((powOk (10 : Int) (18 : Int)) ∧ (((decide (((10 : Int) ^ ((18 : Int)).toNat) ≤ (t_law_draw_x1 feed_here limit))) && (decide (((feed_here).2.1 + (1 : Int)) ≤ ((feed_here).1.length : Int)))) = true → (0 < limit ∧ limit < 1073741824) ∧ (0 < limit)) ∧ (((decide (((10 : Int) ^ ((18 : Int)).toNat) ≤ (t_law_draw_x1 feed_here limit))) && (decide (((feed_here).2.1 + (1 : Int)) ≤ ((feed_here).1.length : Int)))) = false → ((((0 < (1000005209 : Int)) ∧ ((cMul (137 : Int) ((feed_here).2.2.2 + (1 : Int)) = true) ∧ (cMul ((137 : Int) * ((feed_here).2.2.2 + (1 : Int))) (((feed_here).2.2.2 + (1 : Int)) + (3 : Int)) = true))) ∧ (powOk ((((t_law_draw_x1 feed_here limit) % (1000005209 : Int)) + (((137 : Int) * ((feed_here).2.2.2 + (1 : Int))) * (((feed_here).2.2.2 + (1 : Int)) + (3 : Int)))) + (19 : Int)) (5 : Int))) ∧ (0 < (2147483237 : Int))) ∧ (((((((cMul (2 : Int) ((feed_here).2.2.2 + (1 : Int)) = true) ∧ (cMul (t_law_draw_x2 feed_here limit) (((2 : Int) * ((feed_here).2.2.2 + (1 : Int))) + (7 : Int)) = true)) ∧ (cMul (60133 : Int) ((feed_here).2.2.2 + (1 : Int)) = true)) ∧ (powOk (((t_law_draw_x2 feed_here limit) * (((2 : Int) * ((feed_here).2.2.2 + (1 : Int))) + (7 : Int))) + ((60133 : Int) * ((feed_here).2.2.2 + (1 : Int)))) (3 : Int))) ∧ (0 < (2147483179 : Int))) ∧ (0 < (64 : Int) ∧ (64 : Int) < 1073741824)) ∧ (0 < limit)))))
theorem eq_law_draw {M : Mem} {n : Nat} (feed_here : ((List Int) × Int × Int × Int)) (limit : Int) (hc : M[n]? = some (MObj.lst [(eLi eInt).f (feed_here).1, eInt.f (feed_here).2.1, eInt.f (feed_here).2.2.1, eInt.f (feed_here).2.2.2])) (h : pre_law_draw feed_here limit) : FR1 fs_law_draw [.obj n, .p (eInt.f limit)] M (.p (eInt.f (t_law_draw feed_here limit).1)) (M.set n (MObj.lst [(eLi eInt).f ((t_law_draw feed_here limit).2).1, eInt.f ((t_law_draw feed_here limit).2).2.1, eInt.f ((t_law_draw feed_here limit).2).2.2.1, eInt.f ((t_law_draw feed_here limit).2).2.2.2])) := by
  have hn := lt_of_at hc
  refine fr_start hc (fr_of (f := (fun (r : (Int × ((List Int) × Int × Int × Int))) => eInt.f r.1)) (mem := (fun (r : (Int × ((List Int) × Int × Int × Int))) => M.set n (MObj.lst [(eLi eInt).f (r.2).1, eInt.f (r.2).2.1, eInt.f (r.2).2.2.1, eInt.f (r.2).2.2.2]))) (v := (t_law_draw feed_here limit)) (k := M.length) (ρ := [some (.obj n), some (.p (eInt.f limit)), none, none, none]) rfl List.length_set ?_)
  exact ok_seqS (ρ1 := [some (.obj n), some (.p (eInt.f limit)), none, none, none]) (M1 := (M.set n (MObj.lst [(eLi eInt).f (feed_here).1, eInt.f (feed_here).2.1, eInt.f (feed_here).2.2.1, eInt.f ((feed_here).2.2.2 + (1 : Int))])) ++ [])  (ss_stoQ (N := M) (q := 3) (y := eInt.f ((feed_here).2.2.2 + (1 : Int))) (R1 := []) hn rfl (ef_es (es_addI (ep_es (es_subPL (ep_lst rfl (par_at hn)) (es_c) rfl)) (ep_es (es_c)))) (by simp))
    (ok_ifSeq (Q := (KDf M.length (fun (r : (Int × ((List Int) × Int × Int × Int))) => M.set n (MObj.lst [(eLi eInt).f (r.2).1, eInt.f (r.2).2.1, eInt.f (r.2).2.2.1, eInt.f (r.2).2.2.2])) (TDf (fun (r : (Int × ((List Int) × Int × Int × Int))) => eInt.f r.1)))) (ts_val (es_onP (ep_es (es_subPL (ep_lst rfl (par_at hn)) (es_c) rfl)) (ep_es (es_c)) (gGt_int _ _))) (fun hb12 => ok_assoc (ok_seqS (ρ1 := [some (.obj n), some (.p (eInt.f limit)), some (.p (eInt.f ((feed_here).2.2.1 % limit))), none, none]) (M1 := (M.set n (MObj.lst [(eLi eInt).f (feed_here).1, eInt.f (feed_here).2.1, eInt.f (feed_here).2.2.1, eInt.f ((feed_here).2.2.2 + (1 : Int))])) ++ [])  (ss_set (es_onP (ep_es (es_subPL (ep_lst rfl (par_at hn)) (es_c) rfl)) (ep_es (es_var rfl)) (iMod_pos ((h.1 hb12).1))))
    (ok_assoc (ok_seqS (ρ1 := [some (.obj n), some (.p (eInt.f limit)), some (.p (eInt.f ((feed_here).2.2.1 % limit))), none, none]) (M1 := (M.set n (MObj.lst [(eLi eInt).f (feed_here).1, eInt.f (feed_here).2.1, eInt.f ((feed_here).2.2.1 / limit), eInt.f ((feed_here).2.2.2 + (1 : Int))])) ++ [])  (ss_stoQ (N := M) (q := 2) (y := eInt.f ((feed_here).2.2.1 / limit)) (R1 := []) hn rfl (ef_es (es_onP (ep_es (es_subPL (ep_lst rfl (par_at hn)) (es_c) rfl)) (ep_es (es_var rfl)) (iDiv_pos ((h.1 hb12).2).1 ((h.1 hb12).2).2))) (by simp))
    (ok_retSeq (ok_retE List.length_set rfl (es_var rfl)))))))
    (fun hb12 => ok_nxSeq (ok_seqS (ρ1 := [some (.obj n), some (.p (eInt.f limit)), none, some (.p (eInt.f (t_law_draw_x1 feed_here limit))), none]) (M1 := (M.set n (MObj.lst [(eLi eInt).f (feed_here).1, eInt.f (feed_here).2.1, eInt.f (feed_here).2.2.1, eInt.f ((feed_here).2.2.2 + (1 : Int))])) ++ [])  (ss_set (es_if (fun x => .p (eInt.f x)) (ts_val (es_onP (ep_es (es_subPL (ep_lst rfl (par_at hn)) (es_c) rfl)) (ep_es (es_en (en_lst (as_nil) (le_small (k := 0) rfl (by decide))))) (q_ne (eLi eInt) (by decide) _ _))) (fun hb13 => es_subL eInt (ep_es (es_subPL (ep_lst rfl (par_at hn)) (es_c) rfl)) (es_onP (ep_es (es_subPL (ep_lst rfl (par_at hn)) (es_c) rfl)) (ep_es (es_lenL' (ep_es (es_subPL (ep_lst rfl (par_at hn)) (es_c) rfl)))) (iMod_pos (((h.2 hb12).1 hb13).1))) (ixE_ok (((h.2 hb12).1 hb13).2))) (fun hb13 => es_c)))
    (ok_seqS (ρ1 := [some (.obj n), some (.p (eInt.f limit)), none, some (.p (eInt.f (t_law_draw_x1 feed_here limit))), none]) (M1 := (M.set n (MObj.lst [(eLi eInt).f (feed_here).1, eInt.f ((feed_here).2.1 + (1 : Int)), eInt.f (feed_here).2.2.1, eInt.f ((feed_here).2.2.2 + (1 : Int))])) ++ [])  (ss_stoQ (N := M) (q := 1) (y := eInt.f ((feed_here).2.1 + (1 : Int))) (R1 := []) hn rfl (ef_es (es_addI (ep_es (es_subPL (ep_lst rfl (par_at hn)) (es_c) rfl)) (ep_es (es_c)))) (by simp))
    (ok_ifSeq (Q := (KDf M.length (fun (r : (Int × ((List Int) × Int × Int × Int))) => M.set n (MObj.lst [(eLi eInt).f (r.2).1, eInt.f (r.2).2.1, eInt.f (r.2).2.2.1, eInt.f (r.2).2.2.2])) (TDf (fun (r : (Int × ((List Int) × Int × Int × Int))) => eInt.f r.1)))) (ts_and (ts_val (es_onP (ep_es (es_var rfl)) (ep_es (es_onP (ep_es (es_c)) (ep_es (es_c)) (iPow_c ((h.2 hb12).2.1)))) (gGe_int _ _))) (fun hb15 => ts_val (es_onP (ep_es (es_subPL (ep_lst rfl (par_at hn)) (es_c) rfl)) (ep_es (es_lenL' (ep_es (es_subPL (ep_lst rfl (par_at hn)) (es_c) rfl)))) (gLe_int _ _)))) (fun hb14 => ok_assoc (ok_seqS (ρ1 := [some (.obj n), some (.p (eInt.f limit)), none, some (.p (eInt.f (t_law_draw_x1 feed_here limit))), none]) (M1 := (M.set n (MObj.lst [(eLi eInt).f (feed_here).1, eInt.f ((feed_here).2.1 + (1 : Int)), eInt.f ((t_law_draw_x1 feed_here limit) / limit), eInt.f ((feed_here).2.2.2 + (1 : Int))])) ++ [])  (ss_stoQ (N := M) (q := 2) (y := eInt.f ((t_law_draw_x1 feed_here limit) / limit)) (R1 := []) hn rfl (ef_es (es_onP (ep_es (es_var rfl)) (ep_es (es_var rfl)) (iDiv_pos (((h.2 hb12).2.2.1 hb14).1).1 (((h.2 hb12).2.2.1 hb14).1).2))) (by simp))
    (ok_retSeq (ok_retE List.length_set rfl (es_onP (ep_es (es_var rfl)) (ep_es (es_var rfl)) (iMod_pos (((h.2 hb12).2.2.1 hb14).2)))))))
    (fun hb14 => ok_nxSeq (ok_seqS (ρ1 := [some (.obj n), some (.p (eInt.f limit)), none, some (.p (eInt.f (t_law_draw_x1 feed_here limit))), some (.p (eInt.f (t_law_draw_x2 feed_here limit)))]) (M1 := (M.set n (MObj.lst [(eLi eInt).f (feed_here).1, eInt.f ((feed_here).2.1 + (1 : Int)), eInt.f (feed_here).2.2.1, eInt.f ((feed_here).2.2.2 + (1 : Int))])) ++ [])  (ss_set (es_onP (ep_es (es_onP (ep_es (es_addI (ep_es (es_addI (ep_es (es_onP (ep_es (es_var rfl)) (ep_es (es_c)) (iMod_pos (((h.2 hb12).2.2.2 hb14).1.1.1.1)))) (ep_es (es_onP (ep_es (es_onP (ep_es (es_c)) (ep_es (es_subPL (ep_lst rfl (par_at hn)) (es_c) rfl)) (iMul_c (((h.2 hb12).2.2.2 hb14).1.1.1.2.1)))) (ep_es (es_addI (ep_es (es_subPL (ep_lst rfl (par_at hn)) (es_c) rfl)) (ep_es (es_c)))) (iMul_c (((h.2 hb12).2.2.2 hb14).1.1.1.2.2)))))) (ep_es (es_c)))) (ep_es (es_c)) (iPow_c (((h.2 hb12).2.2.2 hb14).1.1.2)))) (ep_es (es_c)) (iMod_pos (((h.2 hb12).2.2.2 hb14).1.2))))
    (ok_retE List.length_set rfl (es_onP (ep_es (es_onP (ep_es (es_onP (ep_es (es_onP (ep_es (es_addI (ep_es (es_onP (ep_es (es_var rfl)) (ep_es (es_addI (ep_es (es_onP (ep_es (es_c)) (ep_es (es_subPL (ep_lst rfl (par_at hn)) (es_c) rfl)) (iMul_c (((h.2 hb12).2.2.2 hb14).2.1.1.1.1.1.1)))) (ep_es (es_c)))) (iMul_c (((h.2 hb12).2.2.2 hb14).2.1.1.1.1.1.2)))) (ep_es (es_onP (ep_es (es_c)) (ep_es (es_subPL (ep_lst rfl (par_at hn)) (es_c) rfl)) (iMul_c (((h.2 hb12).2.2.2 hb14).2.1.1.1.1.2)))))) (ep_es (es_c)) (iPow_c (((h.2 hb12).2.2.2 hb14).2.1.1.1.2)))) (ep_es (es_c)) (iMod_pos (((h.2 hb12).2.2.2 hb14).2.1.1.2)))) (ep_es (es_c)) (iDiv_pos (((h.2 hb12).2.2.2 hb14).2.1.2).1 (((h.2 hb12).2.2.2 hb14).2.1.2).2))) (ep_es (es_var rfl)) (iMod_pos (((h.2 hb12).2.2.2 hb14).2.2)))))))))))
noncomputable def φ_law_sets_of : SFn :=
    sSeq (sSet 2 (eLst (aCons (eTup (aNil)) (aNil))))
    (sSeq (sPre [3] (sFor (iE (eVar 0)) (gNm 3)
    (sWp [3] (sSet 2 (eBin dAdd (eVar 2) (eLc (iE (eVar 2)) (gNm 4) (tVal (eBin (onP gLt) (eCallB bLen (aCons (eVar 4) (aNil))) (eVar 1))) (eBin dAdd (eVar 4) (eTup (aCons (eVar 3) (aNil)))) [4]))))
    (sNx)))
    (sRet (eLc (iE (eVar 2)) (gNm 4) (tVal (eBin (onP gEq) (eCallB bLen (aCons (eVar 4) (aNil))) (eVar 1))) (eVar 4) [4])))
noncomputable def fs_law_sets_of : FS := defF 5 φ_law_sets_of
def t_law_sets_of_x2 (names : (List Str)) (size : Int) (s : (List (List Str))) (name : Str) : (List (List Str)) := (s ++ ((s.filter (fun (some_ : (List Str)) => (decide ((some_.length : Int) < size)))).map (fun (some_ : (List Str)) => (some_ ++ [name]))))
def t_law_sets_of_b1 (names : (List Str)) (size : Int) (s : (List (List Str))) (name : Str) : (List (List Str)) := (t_law_sets_of_x2 names size s name)
def pre_law_sets_of_b1 (names : (List Str)) (size : Int) (s : (List (List Str))) (name : Str) : Prop := ((s.length ≤ sizeLine) ∧ (∀ some_ ∈ s, (decide ((some_.length : Int) < size)) = true → some_.length + [name].length ≤ sizeLine)) ∧ (s.length + ((s.filter (fun (some_ : (List Str)) => (decide ((some_.length : Int) < size)))).map (fun (some_ : (List Str)) => (some_ ++ [name]))).length ≤ sizeLine)
def t_law_sets_of_l1 (names : (List Str)) (size : Int) : (List (List Str)) := names.foldl (t_law_sets_of_b1 names size) [[]]
def t_law_sets_of (names : (List Str)) (size : Int) : (List (List Str)) := ((t_law_sets_of_l1 names size).filter (fun (some_ : (List Str)) => (decide ((some_.length : Int) = size))))
def pre_law_sets_of (names : (List Str)) (size : Int) : Prop := ((names.length ≤ sizeLine) ∧ (preF (t_law_sets_of_b1 names size) (pre_law_sets_of_b1 names size) names [[]])) ∧ ((t_law_sets_of_l1 names size).length ≤ sizeLine)
theorem eq_law_sets_of {M : Mem} (names : (List Str)) (size : Int) (h : pre_law_sets_of names size) : FN1 fs_law_sets_of [.p ((eLi eStr).f names), .p (eInt.f size)] M (MObj.lst ((t_law_sets_of names size).map (eTu eStr).f)) := by
  refine fn_of (f := (fun (r : (List (List Str))) => MObj.lst (r.map (eTu eStr).f))) (v := (t_law_sets_of names size)) (ρ := [some (.p ((eLi eStr).f names)), some (.p (eInt.f size)), none, none, none]) rfl ?_
  exact ok_seqS (ρ1 := [some (.p ((eLi eStr).f names)), some (.p (eInt.f size)), some (.p ((eLi (eTu eStr)).f [[]])), none, none]) (M1 := M ++ [])  (ss_set (es_en (en_lst (as_cons (es_tup (as_nil) (le_small (k := 0) rfl (by decide))) (as_nil)) (le_small (k := 1) rfl (by decide)))))
    (ok_seqS (ρ1 := [some (.p ((eLi eStr).f names)), some (.p (eInt.f size)), some (.p ((eLi (eTu eStr)).f (t_law_sets_of_l1 names size))), none, none]) (M1 := M ++ [])  (ss_pre (ss_for names eStr.f (t_law_sets_of_b1 names size) (fun (s : (List (List Str))) => [some (.p ((eLi eStr).f names)), some (.p (eInt.f size)), some (.p ((eLi (eTu eStr)).f s)), none, none]) (fun (s : (List (List Str))) => M ++ []) (pre_law_sets_of_b1 names size) [[]] (il_lst (es_var rfl)) rfl rfl (h.1.1) (fun s name hx16 hs17 => ⟨_, rfl, ok_wp (ok_lastS (ρ1 := [some (.p ((eLi eStr).f names)), some (.p (eInt.f size)), some (.p ((eLi (eTu eStr)).f (t_law_sets_of_x2 names size s name))), some (.p (eStr.f name)), none]) (M1 := M ++ []) (ss_set (es_en (en_addL (eTu eStr) (ep_es (es_var rfl)) (ep_es (es_en (en_lc s (eTu eStr).f (fun (some_ : (List Str)) => (decide ((some_.length : Int) < size))) (fun (some_ : (List Str)) => (some_ ++ [name])) (eTu eStr).f (fun (some_ : (List Str)) => [some (.p ((eLi eStr).f names)), some (.p (eInt.f size)), some (.p ((eLi (eTu eStr)).f s)), some (.p (eStr.f name)), some (.p ((eTu eStr).f some_))]) (is_lst (es_var rfl)) (hs17.1.1) (fun _ _ => rfl) (fun some_ hx18 => ts_val (es_onP (ep_es (es_lenT' (ep_es (es_var rfl)))) (ep_es (es_var rfl)) (gLt_int _ _))) (fun some_ hx18 hb19 => es_addT eStr (ep_es (es_var rfl)) (ep_es (es_tup (as_cons (es_var (d := .p (eStr.f name)) rfl) (as_nil)) (le_small (k := 1) rfl (by decide)))) ((hs17.1.2 some_ hx18 hb19)))))) (hs17.2)))) (kw_nx (M0 := M) (M1 := M) (Rs := []) (Rs' := []) (s := (t_law_sets_of_x2 names size s name)) rfl rfl rfl))⟩) (h.1.2)))
    (ok_retN rfl rfl (en_f1 (en_lc (t_law_sets_of_l1 names size) (eTu eStr).f (fun (some_ : (List Str)) => (decide ((some_.length : Int) = size))) (fun (some_ : (List Str)) => some_) (eTu eStr).f (fun (some_ : (List Str)) => [some (.p ((eLi eStr).f names)), some (.p (eInt.f size)), some (.p ((eLi (eTu eStr)).f (t_law_sets_of_l1 names size))), none, some (.p ((eTu eStr).f some_))]) (is_lst (es_var rfl)) (h.2) (fun _ _ => rfl) (fun some_ hx20 => ts_val (es_onP (ep_es (es_lenT' (ep_es (es_var rfl)))) (ep_es (es_var rfl)) (q_eq eInt (by decide) _ _))) (fun some_ hx20 hb21 => es_var rfl)))))
noncomputable def φ_law_choice : SFn :=
    sRet (eBin dSub (eVar 1) (eCallU fs_law_draw 2 0 [.at 0, .at 1] (aCons (eVar 0) (aCons (eCallB bLen (aCons (eVar 1) (aNil))) (aNil))) aNil))
noncomputable def fs_law_choice : FS := defF 2 φ_law_choice
def t_law_choice_x1 (feed_here : ((List Int) × Int × Int × Int)) (some_ : (List (List Str))) : (Int × ((List Int) × Int × Int × Int)) := t_law_draw feed_here (some_.length : Int)
def t_law_choice (feed_here : ((List Int) × Int × Int × Int)) (some_ : (List (List Str))) : ((List Str) × ((List Int) × Int × Int × Int)) := ((ixE some_ (t_law_choice_x1 feed_here some_).1), (t_law_choice_x1 feed_here some_).2)
def pre_law_choice (feed_here : ((List Int) × Int × Int × Int)) (some_ : (List (List Str))) : Prop := (pre_law_draw feed_here (some_.length : Int)) ∧ ((atI some_ (t_law_choice_x1 feed_here some_).1).isSome = true)
theorem eq_law_choice {M : Mem} {n : Nat} (feed_here : ((List Int) × Int × Int × Int)) (some_ : (List (List Str))) (hc : M[n]? = some (MObj.lst [(eLi eInt).f (feed_here).1, eInt.f (feed_here).2.1, eInt.f (feed_here).2.2.1, eInt.f (feed_here).2.2.2])) (h : pre_law_choice feed_here some_) : FR1 fs_law_choice [.obj n, .p ((eTu (eTu eStr)).f some_)] M (.p ((eTu eStr).f (t_law_choice feed_here some_).1)) (M.set n (MObj.lst [(eLi eInt).f ((t_law_choice feed_here some_).2).1, eInt.f ((t_law_choice feed_here some_).2).2.1, eInt.f ((t_law_choice feed_here some_).2).2.2.1, eInt.f ((t_law_choice feed_here some_).2).2.2.2])) := by
  have hn := lt_of_at hc
  refine fr_start hc (fr_of (f := (fun (r : ((List Str) × ((List Int) × Int × Int × Int))) => (eTu eStr).f r.1)) (mem := (fun (r : ((List Str) × ((List Int) × Int × Int × Int))) => M.set n (MObj.lst [(eLi eInt).f (r.2).1, eInt.f (r.2).2.1, eInt.f (r.2).2.2.1, eInt.f (r.2).2.2.2]))) (v := (t_law_choice feed_here some_)) (k := M.length) (ρ := [some (.obj n), some (.p ((eTu (eTu eStr)).f some_))]) rfl List.length_set ?_)
  exact ok_retF (M0 := (M.set n (MObj.lst [(eLi eInt).f ((t_law_choice_x1 feed_here some_).2).1, eInt.f ((t_law_choice_x1 feed_here some_).2).2.1, eInt.f ((t_law_choice_x1 feed_here some_).2).2.2.1, eInt.f ((t_law_choice_x1 feed_here some_).2).2.2.2]))) (Rs := []) List.length_set rfl (ef_sub (eTu eStr) (ef_es (es_var (d := .p ((eTu (eTu eStr)).f some_)) rfl)) (ef_call (af_cons (ef_es (es_var (d := .obj n) rfl)) (af_cons (ef_es (es_lenT' (ep_es (es_var rfl)))) (af_nil))) (af_nil) ⟨rfl, rfl⟩ (by rfl) (fr_par hn (eq_law_draw feed_here (some_.length : Int) (par_at hn) (h.1)))) (.inl (rfl)) (ixE_ok (h.2)))
def t_law_choice_i2_x1 (feed_here : ((List Int) × Int × Int × Int)) (some_ : (List Str)) : (Int × ((List Int) × Int × Int × Int)) := t_law_draw feed_here (some_.length : Int)
def t_law_choice_i2 (feed_here : ((List Int) × Int × Int × Int)) (some_ : (List Str)) : (Str × ((List Int) × Int × Int × Int)) := ((ixE some_ (t_law_choice_i2_x1 feed_here some_).1), (t_law_choice_i2_x1 feed_here some_).2)
def pre_law_choice_i2 (feed_here : ((List Int) × Int × Int × Int)) (some_ : (List Str)) : Prop := (pre_law_draw feed_here (some_.length : Int)) ∧ ((atI some_ (t_law_choice_i2_x1 feed_here some_).1).isSome = true)
theorem eq_law_choice_i2 {M : Mem} {n : Nat} (feed_here : ((List Int) × Int × Int × Int)) (some_ : (List Str)) (hc : M[n]? = some (MObj.lst [(eLi eInt).f (feed_here).1, eInt.f (feed_here).2.1, eInt.f (feed_here).2.2.1, eInt.f (feed_here).2.2.2])) (h : pre_law_choice_i2 feed_here some_) : FR1 fs_law_choice [.obj n, .p ((eTu eStr).f some_)] M (.p (eStr.f (t_law_choice_i2 feed_here some_).1)) (M.set n (MObj.lst [(eLi eInt).f ((t_law_choice_i2 feed_here some_).2).1, eInt.f ((t_law_choice_i2 feed_here some_).2).2.1, eInt.f ((t_law_choice_i2 feed_here some_).2).2.2.1, eInt.f ((t_law_choice_i2 feed_here some_).2).2.2.2])) := by
  have hn := lt_of_at hc
  refine fr_start hc (fr_of (f := (fun (r : (Str × ((List Int) × Int × Int × Int))) => eStr.f r.1)) (mem := (fun (r : (Str × ((List Int) × Int × Int × Int))) => M.set n (MObj.lst [(eLi eInt).f (r.2).1, eInt.f (r.2).2.1, eInt.f (r.2).2.2.1, eInt.f (r.2).2.2.2]))) (v := (t_law_choice_i2 feed_here some_)) (k := M.length) (ρ := [some (.obj n), some (.p ((eTu eStr).f some_))]) rfl List.length_set ?_)
  exact ok_retF (M0 := (M.set n (MObj.lst [(eLi eInt).f ((t_law_choice_i2_x1 feed_here some_).2).1, eInt.f ((t_law_choice_i2_x1 feed_here some_).2).2.1, eInt.f ((t_law_choice_i2_x1 feed_here some_).2).2.2.1, eInt.f ((t_law_choice_i2_x1 feed_here some_).2).2.2.2]))) (Rs := []) List.length_set rfl (ef_sub eStr (ef_es (es_var (d := .p ((eTu eStr).f some_)) rfl)) (ef_call (af_cons (ef_es (es_var (d := .obj n) rfl)) (af_cons (ef_es (es_lenT' (ep_es (es_var rfl)))) (af_nil))) (af_nil) ⟨rfl, rfl⟩ (by rfl) (fr_par hn (eq_law_draw feed_here (some_.length : Int) (par_at hn) (h.1)))) (.inl (rfl)) (ixE_ok (h.2)))
def t_law_choice_i3_x1 (feed_here : ((List Int) × Int × Int × Int)) (some_ : (List Int)) : (Int × ((List Int) × Int × Int × Int)) := t_law_draw feed_here (some_.length : Int)
def t_law_choice_i3 (feed_here : ((List Int) × Int × Int × Int)) (some_ : (List Int)) : (Int × ((List Int) × Int × Int × Int)) := ((ixE some_ (t_law_choice_i3_x1 feed_here some_).1), (t_law_choice_i3_x1 feed_here some_).2)
def pre_law_choice_i3 (feed_here : ((List Int) × Int × Int × Int)) (some_ : (List Int)) : Prop := (pre_law_draw feed_here (some_.length : Int)) ∧ ((atI some_ (t_law_choice_i3_x1 feed_here some_).1).isSome = true)
theorem eq_law_choice_i3 {M : Mem} {n : Nat} (feed_here : ((List Int) × Int × Int × Int)) (some_ : (List Int)) (hc : M[n]? = some (MObj.lst [(eLi eInt).f (feed_here).1, eInt.f (feed_here).2.1, eInt.f (feed_here).2.2.1, eInt.f (feed_here).2.2.2])) (h : pre_law_choice_i3 feed_here some_) : FR1 fs_law_choice [.obj n, .p ((eLi eInt).f some_)] M (.p (eInt.f (t_law_choice_i3 feed_here some_).1)) (M.set n (MObj.lst [(eLi eInt).f ((t_law_choice_i3 feed_here some_).2).1, eInt.f ((t_law_choice_i3 feed_here some_).2).2.1, eInt.f ((t_law_choice_i3 feed_here some_).2).2.2.1, eInt.f ((t_law_choice_i3 feed_here some_).2).2.2.2])) := by
  have hn := lt_of_at hc
  refine fr_start hc (fr_of (f := (fun (r : (Int × ((List Int) × Int × Int × Int))) => eInt.f r.1)) (mem := (fun (r : (Int × ((List Int) × Int × Int × Int))) => M.set n (MObj.lst [(eLi eInt).f (r.2).1, eInt.f (r.2).2.1, eInt.f (r.2).2.2.1, eInt.f (r.2).2.2.2]))) (v := (t_law_choice_i3 feed_here some_)) (k := M.length) (ρ := [some (.obj n), some (.p ((eLi eInt).f some_))]) rfl List.length_set ?_)
  exact ok_retF (M0 := (M.set n (MObj.lst [(eLi eInt).f ((t_law_choice_i3_x1 feed_here some_).2).1, eInt.f ((t_law_choice_i3_x1 feed_here some_).2).2.1, eInt.f ((t_law_choice_i3_x1 feed_here some_).2).2.2.1, eInt.f ((t_law_choice_i3_x1 feed_here some_).2).2.2.2]))) (Rs := []) List.length_set rfl (ef_sub eInt (ef_es (es_var (d := .p ((eLi eInt).f some_)) rfl)) (ef_call (af_cons (ef_es (es_var (d := .obj n) rfl)) (af_cons (ef_es (es_lenL' (ep_es (es_var rfl)))) (af_nil))) (af_nil) ⟨rfl, rfl⟩ (by rfl) (fr_par hn (eq_law_draw feed_here (some_.length : Int) (par_at hn) (h.1)))) (.inr (rfl)) (ixE_ok (h.2)))
noncomputable def φ_law_teams : SFn :=
    sSeq (sSet 2 (eAl (eLst (aCons (eD (.p (.str "ann"))) (aCons (eD (.p (.str "bo"))) (aCons (eD (.p (.str "cy"))) (aCons (eD (.p (.str "d"))) (aCons (eD (.p (.str "eve"))) (aCons (eD (.p (.str "longname"))) (aCons (eD (.p (.str "m"))) (aCons (eD (.p (.str "z"))) (aNil))))))))))))
    (sSeq (sPre [] (sWh (tVal (eBin (onP gGt) (eCallB bLen (aCons (eVar 2) (aNil))) (eVar 1)))
    (sWp [] (sDrop (eMth gmPop (eVar 2) (aCons (eCallU fs_law_draw 2 0 [.at 0, .at 1] (aCons (eVar 0) (aCons (eCallB bLen (aCons (eVar 2) (aNil))) (aNil))) aNil) (aNil)))))
    (sNx)))
    (sSeq (sSet 2 (eAl (eSl (eVar 2) (oNone) (oSome (eBin dAdd (eD (.p (.int 1))) (eCallU fs_law_draw 2 0 [.at 0, .at 1] (aCons (eVar 0) (aCons (eVar 1) (aNil))) aNil))))))
    (sFr 2 (sSeq (sIf (tVal (eBin (onP gEq) (eCallU fs_law_draw 2 0 [.at 0, .at 1] (aCons (eVar 0) (aCons (eD (.p (.int 4))) (aNil))) aNil) (eD (.p (.int 0)))))
    (sRet (eCallU fs_law_minimal 1 0 [.at 0] (aCons (eCallU fs_law_sets_of 2 0 [.at 0, .at 1] (aCons (eVar 2) (aCons (eOrI (eCallU fs_law_choice 2 0 [.at 0, .at 1] (aCons (eVar 0) (aCons (eLst (aCons (eD (.p (.int 1))) (aCons (eBin (onP (ii iSub)) (eCallB bLen (aCons (eVar 2) (aNil))) (eD (.p (.int 1)))) (aCons (eCallB bMin (aCons (eD (.p (.int 2))) (aCons (eCallB bLen (aCons (eVar 2) (aNil))) (aNil)))) (aNil))))) (aNil))) aNil) (eD (.p (.int 1)))) (aNil))) aNil) (aNil)) aNil))
    (sNx))
    (sSeq (sPar 3 4 (aCons (eAl (eLst (aNil))) (aCons (eBin dAdd (eD (.p (.int 1))) (eCallU fs_law_draw 2 0 [.at 0, .at 1] (aCons (eVar 0) (aCons (eD (.p (.int 3))) (aNil))) aNil)) (aNil))))
    (sSeq (sPre [5, 6] (sFor (iRg rg1 (aCons (eBin dAdd (eD (.p (.int 2))) (eCallU fs_law_draw 2 0 [.at 0, .at 1] (aCons (eVar 0) (aCons (eD (.p (.int 9))) (aNil))) aNil)) (aNil))) (gNm 5)
    (sWp [5, 6] (sSeq (sSet 6 (eLc (iE (eVar 2)) (gNm 7) (tVal (eBin (onP gEq) (eCallU fs_law_draw 2 0 [.at 0, .at 1] (aCons (eVar 0) (aCons (eBin dAdd (eD (.p (.int 1))) (eVar 4)) (aNil))) aNil) (eD (.p (.int 0))))) (eVar 7) [7]))
    (sDrop (eMth gmAppend (eVar 3) (aCons (eCallB bTuple (aCons (eIf (tVal (eBin (onP gNe) (eVar 6) (eLst (aNil)))) (eVar 6) (eSl (eVar 2) (oNone) (oSome (eD (.p (.int 1)))))) (aNil))) (aNil))))))
    (sNx)))
    (sFr 3 (sRet (eCallU fs_law_minimal 1 0 [.at 0] (aCons (eVar 3) (aNil)) aNil)))))))))
noncomputable def fs_law_teams : FS := defF 8 φ_law_teams
def t_law_teams_x4 (feed_here : ((List Int) × Int × Int × Int)) (most : Int) (s : (((List Int) × Int × Int × Int) × (List Str))) : (Int × ((List Int) × Int × Int × Int)) := t_law_draw s.1 (s.2.length : Int)
def t_law_teams_wc1 (feed_here : ((List Int) × Int × Int × Int)) (most : Int) (s : (((List Int) × Int × Int × Int) × (List Str))) : Bool := (decide (most < (s.2.length : Int)))
def pre_law_teams_wc1 (feed_here : ((List Int) × Int × Int × Int)) (most : Int) (s : (((List Int) × Int × Int × Int) × (List Str))) : Prop := True
def t_law_teams_w1 (feed_here : ((List Int) × Int × Int × Int)) (most : Int) (s : (((List Int) × Int × Int × Int) × (List Str))) : (((List Int) × Int × Int × Int) × (List Str)) := ((t_law_teams_x4 feed_here most s).2, (s.2.eraseIdx (t_law_teams_x4 feed_here most s).1.toNat))
def pre_law_teams_w1 (feed_here : ((List Int) × Int × Int × Int)) (most : Int) (s : (((List Int) × Int × Int × Int) × (List Str))) : Prop := (pre_law_draw s.1 (s.2.length : Int)) ∧ (0 ≤ (t_law_teams_x4 feed_here most s).1 ∧ (t_law_teams_x4 feed_here most s).1 < s.2.length ∧ s.2.length ≤ sizeLine)
def t_law_teams_wl1 (feed_here : ((List Int) × Int × Int × Int)) (most : Int) : (((List Int) × Int × Int × Int) × (List Str)) := whF (t_law_teams_wc1 feed_here most) (t_law_teams_w1 feed_here most) 64 (feed_here, [("ann" : Str), ("bo" : Str), ("cy" : Str), ("d" : Str), ("eve" : Str), ("longname" : Str), ("m" : Str), ("z" : Str)])
def t_law_teams_x5 (feed_here : ((List Int) × Int × Int × Int)) (most : Int) : (Int × ((List Int) × Int × Int × Int)) := t_law_draw (t_law_teams_wl1 feed_here most).1 most
def t_law_teams_x6 (feed_here : ((List Int) × Int × Int × Int)) (most : Int) : (Int × ((List Int) × Int × Int × Int)) := t_law_draw (t_law_teams_x5 feed_here most).2 (4 : Int)
def t_law_teams_x7 (feed_here : ((List Int) × Int × Int × Int)) (most : Int) : (Int × ((List Int) × Int × Int × Int)) := t_law_choice_i3 (t_law_teams_x6 feed_here most).2 [(1 : Int), (((cutE (t_law_teams_wl1 feed_here most).2 none (some ((1 : Int) + (t_law_teams_x5 feed_here most).1))).length : Int) - (1 : Int)), (minI (2 : Int) ((cutE (t_law_teams_wl1 feed_here most).2 none (some ((1 : Int) + (t_law_teams_x5 feed_here most).1))).length : Int))]
def t_law_teams_x8 (feed_here : ((List Int) × Int × Int × Int)) (most : Int) : (Int × Unit) := (if (t_law_teams_x7 feed_here most).1 = 0 then ((1 : Int), ()) else ((t_law_teams_x7 feed_here most).1, ()))
def t_law_teams_x9 (feed_here : ((List Int) × Int × Int × Int)) (most : Int) : (Int × ((List Int) × Int × Int × Int)) := t_law_draw (t_law_teams_x6 feed_here most).2 (3 : Int)
def t_law_teams_x10 (feed_here : ((List Int) × Int × Int × Int)) (most : Int) (s : (((List Int) × Int × Int × Int) × (List (List Str)))) (k : Int) (s2 : ((List Int) × Int × Int × Int)) (name : Str) : (Int × ((List Int) × Int × Int × Int)) := t_law_draw s2 ((1 : Int) + ((1 : Int) + (t_law_teams_x9 feed_here most).1))
def t_law_teams_c3 (feed_here : ((List Int) × Int × Int × Int)) (most : Int) (s : (((List Int) × Int × Int × Int) × (List (List Str)))) (k : Int) (s2 : ((List Int) × Int × Int × Int)) (name : Str) : Option Str × ((List Int) × Int × Int × Int) := (if (decide ((t_law_teams_x10 feed_here most s k s2 name).1 = (0 : Int))) = true then (some name, (t_law_teams_x10 feed_here most s k s2 name).2) else (none, (t_law_teams_x10 feed_here most s k s2 name).2))
def pre_law_teams_c3 (feed_here : ((List Int) × Int × Int × Int)) (most : Int) (s : (((List Int) × Int × Int × Int) × (List (List Str)))) (k : Int) (s2 : ((List Int) × Int × Int × Int)) (name : Str) : Prop := pre_law_draw s2 ((1 : Int) + ((1 : Int) + (t_law_teams_x9 feed_here most).1))
def t_law_teams_d3 (feed_here : ((List Int) × Int × Int × Int)) (most : Int) (s : (((List Int) × Int × Int × Int) × (List (List Str)))) (k : Int) : List Str × ((List Int) × Int × Int × Int) := lcS (t_law_teams_c3 feed_here most s k) (cutE (t_law_teams_wl1 feed_here most).2 none (some ((1 : Int) + (t_law_teams_x5 feed_here most).1))) s.1
def t_law_teams_b2 (feed_here : ((List Int) × Int × Int × Int)) (most : Int) (s : (((List Int) × Int × Int × Int) × (List (List Str)))) (k : Int) : (((List Int) × Int × Int × Int) × (List (List Str))) := ((t_law_teams_d3 feed_here most s k).2, (s.2 ++ [(if (!decide ((t_law_teams_d3 feed_here most s k).1 = ([] : List Str))) = true then (t_law_teams_d3 feed_here most s k).1 else (cutE (cutE (t_law_teams_wl1 feed_here most).2 none (some ((1 : Int) + (t_law_teams_x5 feed_here most).1))) none (some (1 : Int))))]))
def pre_law_teams_b2 (feed_here : ((List Int) × Int × Int × Int)) (most : Int) (s : (((List Int) × Int × Int × Int) × (List (List Str)))) (k : Int) : Prop := (((cutE (t_law_teams_wl1 feed_here most).2 none (some ((1 : Int) + (t_law_teams_x5 feed_here most).1))).length ≤ sizeLine) ∧ (preS (t_law_teams_c3 feed_here most s k) (pre_law_teams_c3 feed_here most s k) (cutE (t_law_teams_wl1 feed_here most).2 none (some ((1 : Int) + (t_law_teams_x5 feed_here most).1))) s.1)) ∧ (s.2.length < sizeLine)
def t_law_teams_x11 (feed_here : ((List Int) × Int × Int × Int)) (most : Int) : (Int × ((List Int) × Int × Int × Int)) := t_law_draw (t_law_teams_x9 feed_here most).2 (9 : Int)
def t_law_teams_l2 (feed_here : ((List Int) × Int × Int × Int)) (most : Int) : (((List Int) × Int × Int × Int) × (List (List Str))) := ((List.range ((2 : Int) + (t_law_teams_x11 feed_here most).1).toNat).map Int.ofNat).foldl (t_law_teams_b2 feed_here most) ((t_law_teams_x11 feed_here most).2, ([] : List (List Str)))
def t_law_teams (feed_here : ((List Int) × Int × Int × Int)) (most : Int) : ((List (List Str)) × ((List Int) × Int × Int × Int)) := (if (decide ((t_law_teams_x6 feed_here most).1 = (0 : Int))) = true then ((t_law_minimal (t_law_sets_of (cutE (t_law_teams_wl1 feed_here most).2 none (some ((1 : Int) + (t_law_teams_x5 feed_here most).1))) (t_law_teams_x8 feed_here most).1)), (t_law_teams_x7 feed_here most).2) else ((t_law_minimal (t_law_teams_l2 feed_here most).2), (t_law_teams_l2 feed_here most).1))
def pre_law_teams (feed_here : ((List Int) × Int × Int × Int)) (most : Int) : Prop := (preW (t_law_teams_wc1 feed_here most) (t_law_teams_w1 feed_here most) (pre_law_teams_wc1 feed_here most) (pre_law_teams_w1 feed_here most) 64 (feed_here, [("ann" : Str), ("bo" : Str), ("cy" : Str), ("d" : Str), ("eve" : Str), ("longname" : Str), ("m" : Str), ("z" : Str)])) ∧ ((pre_law_draw (t_law_teams_wl1 feed_here most).1 most) ∧ ((pre_law_draw (t_law_teams_x5 feed_here most).2 (4 : Int)) ∧ ((decide ((t_law_teams_x6 feed_here most).1 = (0 : Int))) = true → ((pre_law_choice_i3 (t_law_teams_x6 feed_here most).2 [(1 : Int), (((cutE (t_law_teams_wl1 feed_here most).2 none (some ((1 : Int) + (t_law_teams_x5 feed_here most).1))).length : Int) - (1 : Int)), (minI (2 : Int) ((cutE (t_law_teams_wl1 feed_here most).2 none (some ((1 : Int) + (t_law_teams_x5 feed_here most).1))).length : Int))]) ∧ (pre_law_sets_of (cutE (t_law_teams_wl1 feed_here most).2 none (some ((1 : Int) + (t_law_teams_x5 feed_here most).1))) (t_law_teams_x8 feed_here most).1)) ∧ (pre_law_minimal (t_law_sets_of (cutE (t_law_teams_wl1 feed_here most).2 none (some ((1 : Int) + (t_law_teams_x5 feed_here most).1))) (t_law_teams_x8 feed_here most).1))) ∧ ((decide ((t_law_teams_x6 feed_here most).1 = (0 : Int))) = false → (pre_law_draw (t_law_teams_x6 feed_here most).2 (3 : Int)) ∧ ((((pre_law_draw (t_law_teams_x9 feed_here most).2 (9 : Int)) ∧ (-1000000000000 ≤ ((2 : Int) + (t_law_teams_x11 feed_here most).1) ∧ ((2 : Int) + (t_law_teams_x11 feed_here most).1) ≤ 1000000000000)) ∧ (((List.range ((2 : Int) + (t_law_teams_x11 feed_here most).1).toNat).map Int.ofNat).length ≤ sizeLine) ∧ (preF (t_law_teams_b2 feed_here most) (pre_law_teams_b2 feed_here most) ((List.range ((2 : Int) + (t_law_teams_x11 feed_here most).1).toNat).map Int.ofNat) ((t_law_teams_x11 feed_here most).2, ([] : List (List Str))))) ∧ (pre_law_minimal (t_law_teams_l2 feed_here most).2)))))
theorem eq_law_teams {M : Mem} {n : Nat} (feed_here : ((List Int) × Int × Int × Int)) (most : Int) (hc : M[n]? = some (MObj.lst [(eLi eInt).f (feed_here).1, eInt.f (feed_here).2.1, eInt.f (feed_here).2.2.1, eInt.f (feed_here).2.2.2])) (h : pre_law_teams feed_here most) : FR1 fs_law_teams [.obj n, .p (eInt.f most)] M (.p ((eTu (eTu eStr)).f (t_law_teams feed_here most).1)) (M.set n (MObj.lst [(eLi eInt).f ((t_law_teams feed_here most).2).1, eInt.f ((t_law_teams feed_here most).2).2.1, eInt.f ((t_law_teams feed_here most).2).2.2.1, eInt.f ((t_law_teams feed_here most).2).2.2.2])) := by
  have hn := lt_of_at hc
  refine fr_start hc (fr_of (f := (fun (r : ((List (List Str)) × ((List Int) × Int × Int × Int))) => (eTu (eTu eStr)).f r.1)) (mem := (fun (r : ((List (List Str)) × ((List Int) × Int × Int × Int))) => M.set n (MObj.lst [(eLi eInt).f (r.2).1, eInt.f (r.2).2.1, eInt.f (r.2).2.2.1, eInt.f (r.2).2.2.2]))) (v := (t_law_teams feed_here most)) (k := M.length) (ρ := [some (.obj n), some (.p (eInt.f most)), none, none, none, none, none, none]) rfl List.length_set ?_)
  exact ok_seqS (ρ1 := [some (.obj n), some (.p (eInt.f most)), some (.obj (M.length + 0)), none, none, none, none, none]) (M1 := (M.set n (MObj.lst [(eLi eInt).f (feed_here).1, eInt.f (feed_here).2.1, eInt.f (feed_here).2.2.1, eInt.f (feed_here).2.2.2])) ++ [MObj.lst ([("ann" : Str), ("bo" : Str), ("cy" : Str), ("d" : Str), ("eve" : Str), ("longname" : Str), ("m" : Str), ("z" : Str)].map eStr.f)])  (ss_new (M := (M.set n (MObj.lst [(eLi eInt).f (feed_here).1, eInt.f (feed_here).2.1, eInt.f (feed_here).2.2.1, eInt.f (feed_here).2.2.2]))) (R := []) (k := M.length) (o := MObj.lst ([("ann" : Str), ("bo" : Str), ("cy" : Str), ("d" : Str), ("eve" : Str), ("longname" : Str), ("m" : Str), ("z" : Str)].map eStr.f)) List.length_set (en_lst (as_cons (es_c) (as_cons (es_c) (as_cons (es_c) (as_cons (es_c) (as_cons (es_c) (as_cons (es_c) (as_cons (es_c) (as_cons (es_c) (as_nil))))))))) (le_small (k := 8) rfl (by decide))))
    (ok_seqS (ρ1 := [some (.obj n), some (.p (eInt.f most)), some (.obj (M.length + 0)), none, none, none, none, none]) (M1 := (M.set n (MObj.lst [(eLi eInt).f ((t_law_teams_wl1 feed_here most).1).1, eInt.f ((t_law_teams_wl1 feed_here most).1).2.1, eInt.f ((t_law_teams_wl1 feed_here most).1).2.2.1, eInt.f ((t_law_teams_wl1 feed_here most).1).2.2.2])) ++ [MObj.lst ((t_law_teams_wl1 feed_here most).2.map eStr.f)])  (ss_pre (ss_wh (t_law_teams_wc1 feed_here most) (t_law_teams_w1 feed_here most) (fun (s : (((List Int) × Int × Int × Int) × (List Str))) => [some (.obj n), some (.p (eInt.f most)), some (.obj (M.length + 0)), none, none, none, none, none]) (fun (s : (((List Int) × Int × Int × Int) × (List Str))) => (M.set n (MObj.lst [(eLi eInt).f (s.1).1, eInt.f (s.1).2.1, eInt.f (s.1).2.2.1, eInt.f (s.1).2.2.2])) ++ [MObj.lst (s.2.map eStr.f)]) (pre_law_teams_wc1 feed_here most) (pre_law_teams_w1 feed_here most) 64 (feed_here, [("ann" : Str), ("bo" : Str), ("cy" : Str), ("d" : Str), ("eve" : Str), ("longname" : Str), ("m" : Str), ("z" : Str)]) rfl rfl (by rw [sizeLine_eq]; decide) (fun s hs22 => te_ts (ts_val (es_onP (ep_es (es_lenL' (ep_lst rfl ((obj_at List.length_set).trans rfl)))) (ep_es (es_var rfl)) (gGt_int _ _)))) (fun s hs22 _ => ok_wp (ok_lastS (ρ1 := [some (.obj n), some (.p (eInt.f most)), some (.obj (M.length + 0)), none, none, none, none, none]) (M1 := (M.set n (MObj.lst [(eLi eInt).f ((t_law_teams_x4 feed_here most s).2).1, eInt.f ((t_law_teams_x4 feed_here most s).2).2.1, eInt.f ((t_law_teams_x4 feed_here most s).2).2.2.1, eInt.f ((t_law_teams_x4 feed_here most s).2).2.2.2])) ++ [MObj.lst ((s.2.eraseIdx (t_law_teams_x4 feed_here most s).1.toNat).map eStr.f)]) (ss_dropF (ef_pop (j := 0) eStr List.length_set List.length_set rfl rfl (af_cons (ef_call (af_cons (ef_es (es_var (d := .obj n) rfl)) (af_cons (ef_es (es_lenL' (ep_lst rfl ((obj_at List.length_set).trans rfl)))) (af_nil))) (af_nil) ⟨rfl, rfl⟩ (by rfl) (fr_par hn (eq_law_draw s.1 (s.2.length : Int) (par_at hn) (hs22.1)))) (af_nil)) rfl (hs22.2))) (kw_nx (M0 := (M.set n (MObj.lst [(eLi eInt).f (s.1).1, eInt.f (s.1).2.1, eInt.f (s.1).2.2.1, eInt.f (s.1).2.2.2]))) (M1 := (M.set n (MObj.lst [(eLi eInt).f ((t_law_teams_x4 feed_here most s).2).1, eInt.f ((t_law_teams_x4 feed_here most s).2).2.1, eInt.f ((t_law_teams_x4 feed_here most s).2).2.2.1, eInt.f ((t_law_teams_x4 feed_here most s).2).2.2.2]))) (Rs := [MObj.lst (s.2.map eStr.f)]) (Rs' := [MObj.lst ((s.2.eraseIdx (t_law_teams_x4 feed_here most s).1.toNat).map eStr.f)]) (s := ((t_law_teams_x4 feed_here most s).2, (s.2.eraseIdx (t_law_teams_x4 feed_here most s).1.toNat))) (List.length_set.trans List.length_set.symm) (by simp only [wipeE_cons, wipeE_nil, List.set_cons_zero, List.set_cons_succ, trim_p, trim_none, trim_nil, trim_frz, trim_obj (M0 := (M.set n (MObj.lst [(eLi eInt).f (s.1).1, eInt.f (s.1).2.1, eInt.f (s.1).2.2.1, eInt.f (s.1).2.2.2]))) (Rs := [MObj.lst (s.2.map eStr.f)]) (j := 0) (k := M.length) List.length_set (by simp), trim_par (M0 := (M.set n (MObj.lst [(eLi eInt).f (s.1).1, eInt.f (s.1).2.1, eInt.f (s.1).2.2.1, eInt.f (s.1).2.2.2]))) (Rs := [MObj.lst (s.2.map eStr.f)]) (n := n) (by rw [List.length_set]; exact hn)] <;> rfl) rfl))) (h.1)))
    (ok_seqS (ρ1 := [some (.obj n), some (.p (eInt.f most)), some (.obj (M.length + 1)), none, none, none, none, none]) (M1 := (M.set n (MObj.lst [(eLi eInt).f ((t_law_teams_x5 feed_here most).2).1, eInt.f ((t_law_teams_x5 feed_here most).2).2.1, eInt.f ((t_law_teams_x5 feed_here most).2).2.2.1, eInt.f ((t_law_teams_x5 feed_here most).2).2.2.2])) ++ [MObj.lst ((t_law_teams_wl1 feed_here most).2.map eStr.f), MObj.lst ((cutE (t_law_teams_wl1 feed_here most).2 none (some ((1 : Int) + (t_law_teams_x5 feed_here most).1))).map eStr.f)])  (ss_newF (M1 := (M.set n (MObj.lst [(eLi eInt).f ((t_law_teams_x5 feed_here most).2).1, eInt.f ((t_law_teams_x5 feed_here most).2).2.1, eInt.f ((t_law_teams_x5 feed_here most).2).2.2.1, eInt.f ((t_law_teams_x5 feed_here most).2).2.2.2]))) (R := [MObj.lst ((t_law_teams_wl1 feed_here most).2.map eStr.f)]) (k := M.length) (o := MObj.lst ((cutE (t_law_teams_wl1 feed_here most).2 none (some ((1 : Int) + (t_law_teams_x5 feed_here most).1))).map eStr.f)) List.length_set (efn_slL eStr (ef_ep rfl) (of_none) (of_some (ef_addI (ef_es (es_c)) (ef_call (af_cons (ef_es (es_var (d := .obj n) rfl)) (af_cons (ef_es (es_var (d := .p (eInt.f most)) rfl)) (af_nil))) (af_nil) ⟨rfl, rfl⟩ (by rfl) (fr_par hn (eq_law_draw (t_law_teams_wl1 feed_here most).1 most (par_at hn) (h.2.1)))))) (pv_obj ((obj_at List.length_set).trans rfl))))
    (ok_frL List.length_set rfl rfl (ok_ifFSeq (Q := (KDf M.length (fun (r : ((List (List Str)) × ((List Int) × Int × Int × Int))) => M.set n (MObj.lst [(eLi eInt).f (r.2).1, eInt.f (r.2).2.1, eInt.f (r.2).2.2.1, eInt.f (r.2).2.2.2])) (TDf (fun (r : ((List (List Str)) × ((List Int) × Int × Int × Int))) => (eTu (eTu eStr)).f r.1)))) (te_val (ef_onP (ef_call (af_cons (ef_es (es_var (d := .obj n) rfl)) (af_cons (ef_es (es_c)) (af_nil))) (af_nil) ⟨rfl, rfl⟩ (by rfl) (fr_par hn (eq_law_draw (t_law_teams_x5 feed_here most).2 (4 : Int) (par_at hn) (h.2.2.1)))) (ef_es (es_c)) (rfl) (rfl) (q_eq eInt (by decide) _ _))) (fun hb23 => ok_retSeq (ok_retF (M0 := (M.set n (MObj.lst [(eLi eInt).f ((t_law_teams_x7 feed_here most).2).1, eInt.f ((t_law_teams_x7 feed_here most).2).2.1, eInt.f ((t_law_teams_x7 feed_here most).2).2.2.1, eInt.f ((t_law_teams_x7 feed_here most).2).2.2.2]))) (Rs := [MObj.lst ((t_law_teams_wl1 feed_here most).2.map eStr.f), MObj.dead]) List.length_set rfl (ef_call (af_cons (ef_efn (efn_call (af_cons (ef_es (es_var (d := .p ((eLi eStr).f (cutE (t_law_teams_wl1 feed_here most).2 none (some ((1 : Int) + (t_law_teams_x5 feed_here most).1))))) rfl)) (af_cons (ef_orI (fun (_ : Unit) => (M.set n (MObj.lst [(eLi eInt).f ((t_law_teams_x7 feed_here most).2).1, eInt.f ((t_law_teams_x7 feed_here most).2).2.1, eInt.f ((t_law_teams_x7 feed_here most).2).2.2.1, eInt.f ((t_law_teams_x7 feed_here most).2).2.2.2])) ++ [MObj.lst ((t_law_teams_wl1 feed_here most).2.map eStr.f), MObj.dead]) (s1 := ()) (s2 := ()) (ef_call (af_cons (ef_es (es_var (d := .obj n) rfl)) (af_cons (ef_es (es_en (en_lst (as_cons (es_c) (as_cons (es_onP (ep_es (es_lenL' (ep_es (es_var rfl)))) (ep_es (es_c)) rfl) (as_cons (es_bk (as_cons (es_c) (as_cons (es_lenL' (ep_es (es_var rfl))) (as_nil))) rfl) (as_nil)))) (le_small (k := 3) rfl (by decide))))) (af_nil))) (af_nil) ⟨rfl, rfl⟩ (by rfl) (fr_par hn (eq_law_choice_i3 (t_law_teams_x6 feed_here most).2 [(1 : Int), (((cutE (t_law_teams_wl1 feed_here most).2 none (some ((1 : Int) + (t_law_teams_x5 feed_here most).1))).length : Int) - (1 : Int)), (minI (2 : Int) ((cutE (t_law_teams_wl1 feed_here most).2 none (some ((1 : Int) + (t_law_teams_x5 feed_here most).1))).length : Int))] (par_at hn) ((h.2.2.2.1 hb23).1.1)))) (fun _ => ef_es (es_c))) (af_nil))) (af_nil) ⟨rfl, rfl⟩ (by rfl) (frn_fn (eq_law_sets_of (cutE (t_law_teams_wl1 feed_here most).2 none (some ((1 : Int) + (t_law_teams_x5 feed_here most).1))) (t_law_teams_x8 feed_here most).1 ((h.2.2.2.1 hb23).1.2))))) (af_nil)) (af_nil) ⟨rfl, rfl⟩ (by rfl) (fr_fs (eq_law_minimal (t_law_sets_of (cutE (t_law_teams_wl1 feed_here most).2 none (some ((1 : Int) + (t_law_teams_x5 feed_here most).1))) (t_law_teams_x8 feed_here most).1) ((h.2.2.2.1 hb23).2))))))
    (fun hb23 => ok_nxSeq (ok_seqS (ρ1 := [some (.obj n), some (.p (eInt.f most)), some (.p ((eLi eStr).f (cutE (t_law_teams_wl1 feed_here most).2 none (some ((1 : Int) + (t_law_teams_x5 feed_here most).1))))), some (.obj (M.length + 2)), some (.p (eInt.f ((1 : Int) + (t_law_teams_x9 feed_here most).1))), none, none, none]) (M1 := (M.set n (MObj.lst [(eLi eInt).f ((t_law_teams_x9 feed_here most).2).1, eInt.f ((t_law_teams_x9 feed_here most).2).2.1, eInt.f ((t_law_teams_x9 feed_here most).2).2.2.1, eInt.f ((t_law_teams_x9 feed_here most).2).2.2.2])) ++ [MObj.lst ((t_law_teams_wl1 feed_here most).2.map eStr.f), MObj.dead, MObj.lst (([] : List (List Str)).map (eTu eStr).f)])  (ss_parF (af_cons (ef_al (M1 := (M.set n (MObj.lst [(eLi eInt).f ((t_law_teams_x6 feed_here most).2).1, eInt.f ((t_law_teams_x6 feed_here most).2).2.1, eInt.f ((t_law_teams_x6 feed_here most).2).2.2.1, eInt.f ((t_law_teams_x6 feed_here most).2).2.2.2]))) (R := [MObj.lst ((t_law_teams_wl1 feed_here most).2.map eStr.f), MObj.dead]) (k := M.length) (o := MObj.lst (([] : List (List Str)).map (eTu eStr).f)) List.length_set (efn_en (en_lst (as_nil) (le_small (k := 0) rfl (by decide))))) (af_cons (ef_addI (ef_es (es_c)) (ef_call (af_cons (ef_es (es_var (d := .obj n) rfl)) (af_cons (ef_es (es_c)) (af_nil))) (af_nil) ⟨rfl, rfl⟩ (by rfl) (fr_par hn (eq_law_draw (t_law_teams_x6 feed_here most).2 (3 : Int) (par_at hn) ((h.2.2.2.2 hb23).1))))) (af_nil))))
    (ok_seqS (ρ1 := [some (.obj n), some (.p (eInt.f most)), some (.p ((eLi eStr).f (cutE (t_law_teams_wl1 feed_here most).2 none (some ((1 : Int) + (t_law_teams_x5 feed_here most).1))))), some (.obj (M.length + 2)), some (.p (eInt.f ((1 : Int) + (t_law_teams_x9 feed_here most).1))), none, none, none]) (M1 := (M.set n (MObj.lst [(eLi eInt).f ((t_law_teams_l2 feed_here most).1).1, eInt.f ((t_law_teams_l2 feed_here most).1).2.1, eInt.f ((t_law_teams_l2 feed_here most).1).2.2.1, eInt.f ((t_law_teams_l2 feed_here most).1).2.2.2])) ++ [MObj.lst ((t_law_teams_wl1 feed_here most).2.map eStr.f), MObj.dead, MObj.lst ((t_law_teams_l2 feed_here most).2.map (eTu eStr).f)])  (ss_pre (ss_forF ((List.range ((2 : Int) + (t_law_teams_x11 feed_here most).1).toNat).map Int.ofNat) eInt.f (t_law_teams_b2 feed_here most) (fun (s : (((List Int) × Int × Int × Int) × (List (List Str)))) => [some (.obj n), some (.p (eInt.f most)), some (.p ((eLi eStr).f (cutE (t_law_teams_wl1 feed_here most).2 none (some ((1 : Int) + (t_law_teams_x5 feed_here most).1))))), some (.obj (M.length + 2)), some (.p (eInt.f ((1 : Int) + (t_law_teams_x9 feed_here most).1))), none, none, none]) (fun (s : (((List Int) × Int × Int × Int) × (List (List Str)))) => (M.set n (MObj.lst [(eLi eInt).f (s.1).1, eInt.f (s.1).2.1, eInt.f (s.1).2.2.1, eInt.f (s.1).2.2.2])) ++ [MObj.lst ((t_law_teams_wl1 feed_here most).2.map eStr.f), MObj.dead, MObj.lst (s.2.map (eTu eStr).f)]) (pre_law_teams_b2 feed_here most) ((t_law_teams_x11 feed_here most).2, ([] : List (List Str))) (if_range1 (af_cons (ef_addI (ef_es (es_c)) (ef_call (af_cons (ef_es (es_var (d := .obj n) rfl)) (af_cons (ef_es (es_c)) (af_nil))) (af_nil) ⟨rfl, rfl⟩ (by rfl) (fr_par hn (eq_law_draw (t_law_teams_x9 feed_here most).2 (9 : Int) (par_at hn) ((h.2.2.2.2 hb23).2.1.1.1))))) (af_nil)) ((h.2.2.2.2 hb23).2.1.1.2).1 ((h.2.2.2.2 hb23).2.1.1.2).2) rfl rfl ((h.2.2.2.2 hb23).2.1.2.1) (fun s k hx24 hs25 => ⟨_, rfl, ok_wp (ok_seqS (ρ1 := [some (.obj n), some (.p (eInt.f most)), some (.p ((eLi eStr).f (cutE (t_law_teams_wl1 feed_here most).2 none (some ((1 : Int) + (t_law_teams_x5 feed_here most).1))))), some (.obj (M.length + 2)), some (.p (eInt.f ((1 : Int) + (t_law_teams_x9 feed_here most).1))), some (.p (eInt.f k)), some (.p ((eLi eStr).f (t_law_teams_d3 feed_here most s k).1)), none]) (M1 := (M.set n (MObj.lst [(eLi eInt).f ((t_law_teams_d3 feed_here most s k).2).1, eInt.f ((t_law_teams_d3 feed_here most s k).2).2.1, eInt.f ((t_law_teams_d3 feed_here most s k).2).2.2.1, eInt.f ((t_law_teams_d3 feed_here most s k).2).2.2.2])) ++ [MObj.lst ((t_law_teams_wl1 feed_here most).2.map eStr.f), MObj.dead, MObj.lst (s.2.map (eTu eStr).f)])  (ss_setF (ef_efn (efn_lcS (cutE (t_law_teams_wl1 feed_here most).2 none (some ((1 : Int) + (t_law_teams_x5 feed_here most).1))) eStr.f (t_law_teams_c3 feed_here most s k) eStr.f (fun (name : Str) => [some (.obj n), some (.p (eInt.f most)), some (.p ((eLi eStr).f (cutE (t_law_teams_wl1 feed_here most).2 none (some ((1 : Int) + (t_law_teams_x5 feed_here most).1))))), some (.obj (M.length + 2)), some (.p (eInt.f ((1 : Int) + (t_law_teams_x9 feed_here most).1))), some (.p (eInt.f k)), none, some (.p (eStr.f name))]) (fun (s2 : ((List Int) × Int × Int × Int)) => (M.set n (MObj.lst [(eLi eInt).f (s2).1, eInt.f (s2).2.1, eInt.f (s2).2.2.1, eInt.f (s2).2.2.2])) ++ [MObj.lst ((t_law_teams_wl1 feed_here most).2.map eStr.f), MObj.dead, MObj.lst (s.2.map (eTu eStr).f)]) (pre_law_teams_c3 feed_here most s k) s.1 (if_il (il_lst (es_var rfl))) rfl (hs25.1.1) (fun _ _ => rfl) (fun s2 name hx26 hs27 => lcb_if (b := (decide ((t_law_teams_x10 feed_here most s k s2 name).1 = (0 : Int)))) (s1 := (t_law_teams_x10 feed_here most s k s2 name).2) (s2 := (t_law_teams_x10 feed_here most s k s2 name).2) (y := name) (te_val (ef_onP (ef_call (af_cons (ef_es (es_var (d := .obj n) rfl)) (af_cons (ef_es (es_addI (ep_es (es_c)) (ep_es (es_var rfl)))) (af_nil))) (af_nil) ⟨rfl, rfl⟩ (by rfl) (fr_par hn (eq_law_draw s2 ((1 : Int) + ((1 : Int) + (t_law_teams_x9 feed_here most).1)) (par_at hn) (hs27)))) (ef_es (es_c)) (rfl) (rfl) (q_eq eInt (by decide) _ _))) (fun hb28 => ef_es (es_var (d := .p (eStr.f name)) rfl))) (hs25.1.2))))
    (ok_lastS (ρ1 := [some (.obj n), some (.p (eInt.f most)), some (.p ((eLi eStr).f (cutE (t_law_teams_wl1 feed_here most).2 none (some ((1 : Int) + (t_law_teams_x5 feed_here most).1))))), some (.obj (M.length + 2)), some (.p (eInt.f ((1 : Int) + (t_law_teams_x9 feed_here most).1))), some (.p (eInt.f k)), some (.p ((eLi eStr).f (t_law_teams_d3 feed_here most s k).1)), none]) (M1 := (M.set n (MObj.lst [(eLi eInt).f ((t_law_teams_d3 feed_here most s k).2).1, eInt.f ((t_law_teams_d3 feed_here most s k).2).2.1, eInt.f ((t_law_teams_d3 feed_here most s k).2).2.2.1, eInt.f ((t_law_teams_d3 feed_here most s k).2).2.2.2])) ++ [MObj.lst ((t_law_teams_wl1 feed_here most).2.map eStr.f), MObj.dead, MObj.lst ((s.2 ++ [(if (!decide ((t_law_teams_d3 feed_here most s k).1 = ([] : List Str))) = true then (t_law_teams_d3 feed_here most s k).1 else (cutE (cutE (t_law_teams_wl1 feed_here most).2 none (some ((1 : Int) + (t_law_teams_x5 feed_here most).1))) none (some (1 : Int))))]).map (eTu eStr).f)]) (ss_app (j := 2) List.length_set (eTu eStr) rfl rfl (es_tupL (ep_es (es_if (fun x => .p ((eLi eStr).f x)) (ts_val (es_onP (ep_es (es_var rfl)) (ep_es (es_en (en_lst (as_nil) (le_small (k := 0) rfl (by decide))))) (q_ne (eLi eStr) (by decide) _ _))) (fun hb29 => es_var rfl) (fun hb29 => es_en (en_slL eStr (ep_es (es_var rfl)) (os_none) (os_some (es_c))))))) (hs25.2)) (kw_nx (M0 := (M.set n (MObj.lst [(eLi eInt).f (s.1).1, eInt.f (s.1).2.1, eInt.f (s.1).2.2.1, eInt.f (s.1).2.2.2]))) (M1 := (M.set n (MObj.lst [(eLi eInt).f ((t_law_teams_d3 feed_here most s k).2).1, eInt.f ((t_law_teams_d3 feed_here most s k).2).2.1, eInt.f ((t_law_teams_d3 feed_here most s k).2).2.2.1, eInt.f ((t_law_teams_d3 feed_here most s k).2).2.2.2]))) (Rs := [MObj.lst ((t_law_teams_wl1 feed_here most).2.map eStr.f), MObj.dead, MObj.lst (s.2.map (eTu eStr).f)]) (Rs' := [MObj.lst ((t_law_teams_wl1 feed_here most).2.map eStr.f), MObj.dead, MObj.lst ((s.2 ++ [(if (!decide ((t_law_teams_d3 feed_here most s k).1 = ([] : List Str))) = true then (t_law_teams_d3 feed_here most s k).1 else (cutE (cutE (t_law_teams_wl1 feed_here most).2 none (some ((1 : Int) + (t_law_teams_x5 feed_here most).1))) none (some (1 : Int))))]).map (eTu eStr).f)]) (s := ((t_law_teams_d3 feed_here most s k).2, (s.2 ++ [(if (!decide ((t_law_teams_d3 feed_here most s k).1 = ([] : List Str))) = true then (t_law_teams_d3 feed_here most s k).1 else (cutE (cutE (t_law_teams_wl1 feed_here most).2 none (some ((1 : Int) + (t_law_teams_x5 feed_here most).1))) none (some (1 : Int))))]))) (List.length_set.trans List.length_set.symm) (by simp only [wipeE_cons, wipeE_nil, List.set_cons_zero, List.set_cons_succ, trim_p, trim_none, trim_nil, trim_frz, trim_obj (M0 := (M.set n (MObj.lst [(eLi eInt).f (s.1).1, eInt.f (s.1).2.1, eInt.f (s.1).2.2.1, eInt.f (s.1).2.2.2]))) (Rs := [MObj.lst ((t_law_teams_wl1 feed_here most).2.map eStr.f), MObj.dead, MObj.lst (s.2.map (eTu eStr).f)]) (j := 2) (k := M.length) List.length_set (by simp), trim_par (M0 := (M.set n (MObj.lst [(eLi eInt).f (s.1).1, eInt.f (s.1).2.1, eInt.f (s.1).2.2.1, eInt.f (s.1).2.2.2]))) (Rs := [MObj.lst ((t_law_teams_wl1 feed_here most).2.map eStr.f), MObj.dead, MObj.lst (s.2.map (eTu eStr).f)]) (n := n) (by rw [List.length_set]; exact hn)] <;> rfl) rfl)))⟩) ((h.2.2.2.2 hb23).2.1.2.2)))
    (ok_frL List.length_set rfl rfl (ok_retE List.length_set rfl (es_call (as_cons (es_var (d := .p ((eLi (eTu eStr)).f (t_law_teams_l2 feed_here most).2)) rfl) (as_nil)) (as_nil) ⟨rfl, rfl⟩ (by rfl) (eq_law_minimal (t_law_teams_l2 feed_here most).2 ((h.2.2.2.2 hb23).2.2))))))))))))
noncomputable def φ_law_scene : SFn :=
    sSeq (sSet 2 (eCallU fs_law_choice 2 0 [.at 0, .at 1] (aCons (eVar 0) (aCons (eVar 1) (aNil))) aNil))
    (sSeq (sSet 3 (eLc (iE (eCallU fs_law_folk 1 0 [.at 0] (aCons (eVar 1) (aNil)) aNil)) (gNm 4) (tOr (tVal (eBin (onP gIn) (eVar 4) (eVar 2))) (tVal (eBin (onP gGt) (eCallU fs_law_draw 2 0 [.at 0, .at 1] (aCons (eVar 0) (aCons (eD (.p (.int 4))) (aNil))) aNil) (eD (.p (.int 0)))))) (eVar 4) [4]))
    (sRet (eTup (aCons (eCallB bTuple (aCons (eVar 3) (aNil))) (aCons (eVar 2) (aNil))))))
noncomputable def fs_law_scene : FS := defF 5 φ_law_scene
def t_law_scene_x2 (feed_here : ((List Int) × Int × Int × Int)) (teams_here : (List (List Str))) : ((List Str) × ((List Int) × Int × Int × Int)) := t_law_choice feed_here teams_here
def t_law_scene_x3 (feed_here : ((List Int) × Int × Int × Int)) (teams_here : (List (List Str))) (s : ((List Int) × Int × Int × Int)) (name : Str) : (Int × ((List Int) × Int × Int × Int)) := t_law_draw s (4 : Int)
def t_law_scene_x4 (feed_here : ((List Int) × Int × Int × Int)) (teams_here : (List (List Str))) (s : ((List Int) × Int × Int × Int)) (name : Str) : (Bool × ((List Int) × Int × Int × Int)) := (if (decide (name ∈ (t_law_scene_x2 feed_here teams_here).1)) = true then (true, s) else ((decide ((0 : Int) < (t_law_scene_x3 feed_here teams_here s name).1)), (t_law_scene_x3 feed_here teams_here s name).2))
def t_law_scene_c1 (feed_here : ((List Int) × Int × Int × Int)) (teams_here : (List (List Str))) (s : ((List Int) × Int × Int × Int)) (name : Str) : Option Str × ((List Int) × Int × Int × Int) := (if (t_law_scene_x4 feed_here teams_here s name).1 = true then (some name, (t_law_scene_x4 feed_here teams_here s name).2) else (none, (t_law_scene_x4 feed_here teams_here s name).2))
def pre_law_scene_c1 (feed_here : ((List Int) × Int × Int × Int)) (teams_here : (List (List Str))) (s : ((List Int) × Int × Int × Int)) (name : Str) : Prop := (decide (name ∈ (t_law_scene_x2 feed_here teams_here).1)) = false → pre_law_draw s (4 : Int)
def t_law_scene_d1 (feed_here : ((List Int) × Int × Int × Int)) (teams_here : (List (List Str))) : List Str × ((List Int) × Int × Int × Int) := lcS (t_law_scene_c1 feed_here teams_here) (t_law_folk teams_here) (t_law_scene_x2 feed_here teams_here).2
def t_law_scene (feed_here : ((List Int) × Int × Int × Int)) (teams_here : (List (List Str))) : (((List Str) × (List Str)) × ((List Int) × Int × Int × Int)) := (((t_law_scene_d1 feed_here teams_here).1, (t_law_scene_x2 feed_here teams_here).1), (t_law_scene_d1 feed_here teams_here).2)
def pre_law_scene (feed_here : ((List Int) × Int × Int × Int)) (teams_here : (List (List Str))) : Prop := (pre_law_choice feed_here teams_here) ∧ ((pre_law_folk teams_here) ∧ ((t_law_folk teams_here).length ≤ sizeLine) ∧ (preS (t_law_scene_c1 feed_here teams_here) (pre_law_scene_c1 feed_here teams_here) (t_law_folk teams_here) (t_law_scene_x2 feed_here teams_here).2))
theorem eq_law_scene {M : Mem} {n : Nat} (feed_here : ((List Int) × Int × Int × Int)) (teams_here : (List (List Str))) (hc : M[n]? = some (MObj.lst [(eLi eInt).f (feed_here).1, eInt.f (feed_here).2.1, eInt.f (feed_here).2.2.1, eInt.f (feed_here).2.2.2])) (h : pre_law_scene feed_here teams_here) : FR1 fs_law_scene [.obj n, .p ((eTu (eTu eStr)).f teams_here)] M (.p ((ePr (eTu eStr) (eTu eStr)).f (t_law_scene feed_here teams_here).1)) (M.set n (MObj.lst [(eLi eInt).f ((t_law_scene feed_here teams_here).2).1, eInt.f ((t_law_scene feed_here teams_here).2).2.1, eInt.f ((t_law_scene feed_here teams_here).2).2.2.1, eInt.f ((t_law_scene feed_here teams_here).2).2.2.2])) := by
  have hn := lt_of_at hc
  refine fr_start hc (fr_of (f := (fun (r : (((List Str) × (List Str)) × ((List Int) × Int × Int × Int))) => (ePr (eTu eStr) (eTu eStr)).f r.1)) (mem := (fun (r : (((List Str) × (List Str)) × ((List Int) × Int × Int × Int))) => M.set n (MObj.lst [(eLi eInt).f (r.2).1, eInt.f (r.2).2.1, eInt.f (r.2).2.2.1, eInt.f (r.2).2.2.2]))) (v := (t_law_scene feed_here teams_here)) (k := M.length) (ρ := [some (.obj n), some (.p ((eTu (eTu eStr)).f teams_here)), none, none, none]) rfl List.length_set ?_)
  exact ok_seqS (ρ1 := [some (.obj n), some (.p ((eTu (eTu eStr)).f teams_here)), some (.p ((eTu eStr).f (t_law_scene_x2 feed_here teams_here).1)), none, none]) (M1 := (M.set n (MObj.lst [(eLi eInt).f ((t_law_scene_x2 feed_here teams_here).2).1, eInt.f ((t_law_scene_x2 feed_here teams_here).2).2.1, eInt.f ((t_law_scene_x2 feed_here teams_here).2).2.2.1, eInt.f ((t_law_scene_x2 feed_here teams_here).2).2.2.2])) ++ [])  (ss_setF (ef_call (af_cons (ef_es (es_var (d := .obj n) rfl)) (af_cons (ef_es (es_var (d := .p ((eTu (eTu eStr)).f teams_here)) rfl)) (af_nil))) (af_nil) ⟨rfl, rfl⟩ (by rfl) (fr_par hn (eq_law_choice feed_here teams_here (par_at hn) (h.1)))))
    (ok_seqS (ρ1 := [some (.obj n), some (.p ((eTu (eTu eStr)).f teams_here)), some (.p ((eTu eStr).f (t_law_scene_x2 feed_here teams_here).1)), some (.p ((eLi eStr).f (t_law_scene_d1 feed_here teams_here).1)), none]) (M1 := (M.set n (MObj.lst [(eLi eInt).f ((t_law_scene_d1 feed_here teams_here).2).1, eInt.f ((t_law_scene_d1 feed_here teams_here).2).2.1, eInt.f ((t_law_scene_d1 feed_here teams_here).2).2.2.1, eInt.f ((t_law_scene_d1 feed_here teams_here).2).2.2.2])) ++ [])  (ss_setF (ef_efn (efn_lcS (t_law_folk teams_here) eStr.f (t_law_scene_c1 feed_here teams_here) eStr.f (fun (name : Str) => [some (.obj n), some (.p ((eTu (eTu eStr)).f teams_here)), some (.p ((eTu eStr).f (t_law_scene_x2 feed_here teams_here).1)), none, some (.p (eStr.f name))]) (fun (s : ((List Int) × Int × Int × Int)) => (M.set n (MObj.lst [(eLi eInt).f (s).1, eInt.f (s).2.1, eInt.f (s).2.2.1, eInt.f (s).2.2.2])) ++ []) (pre_law_scene_c1 feed_here teams_here) (t_law_scene_x2 feed_here teams_here).2 (if_il (il_tup (es_call (as_cons (es_var (d := .p ((eTu (eTu eStr)).f teams_here)) rfl) (as_nil)) (as_nil) ⟨rfl, rfl⟩ (by rfl) (eq_law_folk teams_here (h.2.1))))) rfl (h.2.2.1) (fun _ _ => rfl) (fun s name hx30 hs31 => lcb_if (b := (t_law_scene_x4 feed_here teams_here s name).1) (s1 := (t_law_scene_x4 feed_here teams_here s name).2) (s2 := (t_law_scene_x4 feed_here teams_here s name).2) (y := name) (te_or (fun (s : ((List Int) × Int × Int × Int)) => (M.set n (MObj.lst [(eLi eInt).f (s).1, eInt.f (s).2.1, eInt.f (s).2.2.1, eInt.f (s).2.2.2])) ++ []) (s1 := s) (s2 := (t_law_scene_x3 feed_here teams_here s name).2) (te_ts (ts_val (es_onP (ep_es (es_var rfl)) (ep_es (es_var rfl)) (q_inT eStr (by decide) _ _)))) (fun hb33 => te_val (ef_onP (ef_call (af_cons (ef_es (es_var (d := .obj n) rfl)) (af_cons (ef_es (es_c)) (af_nil))) (af_nil) ⟨rfl, rfl⟩ (by rfl) (fr_par hn (eq_law_draw s (4 : Int) (par_at hn) ((hs31 hb33))))) (ef_es (es_c)) (rfl) (rfl) (gGt_int _ _)))) (fun hb32 => ef_es (es_var (d := .p (eStr.f name)) rfl))) (h.2.2.2))))
    (ok_retE List.length_set rfl (es_tup (as_cons (es_tupL (ep_es (es_var rfl))) (as_cons (es_var (d := .p ((eTu eStr).f (t_law_scene_x2 feed_here teams_here).1)) rfl) (as_nil))) (le_small (k := 2) rfl (by decide)))))
noncomputable def φ_law_without : SFn :=
    sRet (eCallB bTuple (aCons (eLc (iE (eVar 0)) (gNm 2) (tVal (eBin (onP gNe) (eVar 2) (eVar 1))) (eVar 2) [2]) (aNil)))
noncomputable def fs_law_without : FS := defF 3 φ_law_without
def t_law_without (here : (List Str)) (gone : Str) : (List Str) := (here.filter (fun (name : Str) => (!decide (name = gone))))
def pre_law_without (here : (List Str)) (gone : Str) : Prop := here.length ≤ sizeLine
theorem eq_law_without {M : Mem} (here : (List Str)) (gone : Str) (h : pre_law_without here gone) : FS1 fs_law_without [.p ((eTu eStr).f here), .p (eStr.f gone)] M (.p ((eTu eStr).f (t_law_without here gone))) := by
  refine fs_of (f := (fun (r : (List Str)) => (eTu eStr).f r)) (v := (t_law_without here gone)) (ρ := [some (.p ((eTu eStr).f here)), some (.p (eStr.f gone)), none]) rfl ?_
  exact ok_retE rfl rfl (es_tupL (ep_es (es_en (en_f1 (en_lc here eStr.f (fun (name : Str) => (!decide (name = gone))) (fun (name : Str) => name) eStr.f (fun (name : Str) => [some (.p ((eTu eStr).f here)), some (.p (eStr.f gone)), some (.p (eStr.f name))]) (is_tup (es_var rfl)) (h) (fun _ _ => rfl) (fun name hx34 => ts_val (es_onP (ep_es (es_var rfl)) (ep_es (es_var rfl)) (q_ne eStr (by decide) _ _))) (fun name hx34 hb35 => es_var rfl))))))
noncomputable def φ_law_left : SFn :=
    sRet (eCallB bTuple (aCons (eLc (iE (eVar 0)) (gNm 2) (tVal (eCallU fs_law_is_part 2 0 [.at 0, .at 1] (aCons (eVar 2) (aCons (eVar 1) (aNil))) aNil)) (eVar 2) [2]) (aNil)))
noncomputable def fs_law_left : FS := defF 3 φ_law_left
def t_law_left (teams_here : (List (List Str))) (here : (List Str)) : (List (List Str)) := (teams_here.filter (fun (team : (List Str)) => (t_law_is_part team here)))
def pre_law_left (teams_here : (List (List Str))) (here : (List Str)) : Prop := (teams_here.length ≤ sizeLine) ∧ (∀ team ∈ teams_here, pre_law_is_part team here)
theorem eq_law_left {M : Mem} (teams_here : (List (List Str))) (here : (List Str)) (h : pre_law_left teams_here here) : FS1 fs_law_left [.p ((eTu (eTu eStr)).f teams_here), .p ((eTu eStr).f here)] M (.p ((eTu (eTu eStr)).f (t_law_left teams_here here))) := by
  refine fs_of (f := (fun (r : (List (List Str))) => (eTu (eTu eStr)).f r)) (v := (t_law_left teams_here here)) (ρ := [some (.p ((eTu (eTu eStr)).f teams_here)), some (.p ((eTu eStr).f here)), none]) rfl ?_
  exact ok_retE rfl rfl (es_tupL (ep_es (es_en (en_f1 (en_lc teams_here (eTu eStr).f (fun (team : (List Str)) => (t_law_is_part team here)) (fun (team : (List Str)) => team) (eTu eStr).f (fun (team : (List Str)) => [some (.p ((eTu (eTu eStr)).f teams_here)), some (.p ((eTu eStr).f here)), some (.p ((eTu eStr).f team))]) (is_tup (es_var rfl)) (h.1) (fun _ _ => rfl) (fun team hx36 => ts_val (es_call (as_cons (es_var (d := .p ((eTu eStr).f team)) rfl) (as_cons (es_var (d := .p ((eTu eStr).f here)) rfl) (as_nil))) (as_nil) ⟨rfl, rfl⟩ (by rfl) (eq_law_is_part team here ((h.2 team hx36))))) (fun team hx36 hb37 => es_var rfl))))))
noncomputable def φ_law_next : SFn :=
    sSeq (sSet 5 (eCallU fs_law_without 2 0 [.at 0, .at 1] (aCons (eVar 1) (aCons (eVar 3) (aNil))) aNil))
    (sSeq (sIf (tVal (eBin (onP gNotIn) (eVar 3) (eVar 2)))
    (sRet (eTup (aCons (eVar 2) (aNil))))
    (sNx))
    (sSeq (sSet 6 (eCallU fs_law_left 2 0 [.at 0, .at 1] (aCons (eVar 0) (aCons (eVar 5) (aNil))) aNil))
    (sSeq (sIf (tVal (eBin (onP gEq) (eVar 6) (eTup (aNil))))
    (sRet (eD (.p .none)))
    (sNx))
    (sRet (eCallB bTuple (aCons (eLc (iE (eVar 6)) (gNm 7) (tVal (eBin (onP gLe) (eCallB bLen (aCons (eLc (iE (eVar 7)) (gNm 8) (tVal (eBin (onP gNotIn) (eVar 8) (eVar 2))) (eVar 8) [8]) (aNil))) (eVar 4))) (eVar 7) [7]) (aNil)))))))
noncomputable def fs_law_next : FS := defF 9 φ_law_next
def t_law_next (teams_here : (List (List Str))) (here : (List Str)) (team : (List Str)) (gone : Str) (limit : Int) : (Option (List (List Str))) := (if (!decide (gone ∈ team)) = true then (some [team]) else (if (decide ((t_law_left teams_here (t_law_without here gone)) = [])) = true then none else (some ((t_law_left teams_here (t_law_without here gone)).filter (fun (other : (List Str)) => (decide (((other.filter (fun (name : Str) => (!decide (name ∈ team)))).length : Int) ≤ limit)))))))
def pre_law_next (teams_here : (List (List Str))) (here : (List Str)) (team : (List Str)) (gone : Str) (limit : Int) : Prop := (pre_law_without here gone) ∧ ((!decide (gone ∈ team)) = false → (pre_law_left teams_here (t_law_without here gone)) ∧ ((decide ((t_law_left teams_here (t_law_without here gone)) = [])) = false → ((t_law_left teams_here (t_law_without here gone)).length ≤ sizeLine) ∧ (∀ other ∈ (t_law_left teams_here (t_law_without here gone)), other.length ≤ sizeLine)))
theorem eq_law_next {M : Mem} (teams_here : (List (List Str))) (here : (List Str)) (team : (List Str)) (gone : Str) (limit : Int) (h : pre_law_next teams_here here team gone limit) : FS1 fs_law_next [.p ((eTu (eTu eStr)).f teams_here), .p ((eTu eStr).f here), .p ((eTu eStr).f team), .p (eStr.f gone), .p (eInt.f limit)] M (.p ((eOp (eTu (eTu eStr)) (fun _ => rfl)).f (t_law_next teams_here here team gone limit))) := by
  refine fs_of (f := (fun (r : (Option (List (List Str)))) => (eOp (eTu (eTu eStr)) (fun _ => rfl)).f r)) (v := (t_law_next teams_here here team gone limit)) (ρ := [some (.p ((eTu (eTu eStr)).f teams_here)), some (.p ((eTu eStr).f here)), some (.p ((eTu eStr).f team)), some (.p (eStr.f gone)), some (.p (eInt.f limit)), none, none, none, none]) rfl ?_
  exact ok_seqS (ρ1 := [some (.p ((eTu (eTu eStr)).f teams_here)), some (.p ((eTu eStr).f here)), some (.p ((eTu eStr).f team)), some (.p (eStr.f gone)), some (.p (eInt.f limit)), some (.p ((eTu eStr).f (t_law_without here gone))), none, none, none]) (M1 := M ++ [])  (ss_set (es_call (as_cons (es_var (d := .p ((eTu eStr).f here)) rfl) (as_cons (es_var (d := .p (eStr.f gone)) rfl) (as_nil))) (as_nil) ⟨rfl, rfl⟩ (by rfl) (eq_law_without here gone (h.1))))
    (ok_ifSeq (Q := (KDf M.length (fun (_ : (Option (List (List Str)))) => M) (TDf (fun (r : (Option (List (List Str)))) => (eOp (eTu (eTu eStr)) (fun _ => rfl)).f r)))) (ts_val (es_onP (ep_es (es_var rfl)) (ep_es (es_var rfl)) (q_niT eStr (by decide) _ _))) (fun hb38 => ok_retSeq (ok_retE rfl rfl (es_some (e := (eTu (eTu eStr))) (hn := fun _ => rfl) (x := [team]) (es_tup (as_cons (es_var (d := .p ((eTu eStr).f team)) rfl) (as_nil)) (le_small (k := 1) rfl (by decide))))))
    (fun hb38 => ok_nxSeq (ok_seqS (ρ1 := [some (.p ((eTu (eTu eStr)).f teams_here)), some (.p ((eTu eStr).f here)), some (.p ((eTu eStr).f team)), some (.p (eStr.f gone)), some (.p (eInt.f limit)), some (.p ((eTu eStr).f (t_law_without here gone))), some (.p ((eTu (eTu eStr)).f (t_law_left teams_here (t_law_without here gone)))), none, none]) (M1 := M ++ [])  (ss_set (es_call (as_cons (es_var (d := .p ((eTu (eTu eStr)).f teams_here)) rfl) (as_cons (es_var (d := .p ((eTu eStr).f (t_law_without here gone))) rfl) (as_nil))) (as_nil) ⟨rfl, rfl⟩ (by rfl) (eq_law_left teams_here (t_law_without here gone) ((h.2 hb38).1))))
    (ok_ifSeq (Q := (KDf M.length (fun (_ : (Option (List (List Str)))) => M) (TDf (fun (r : (Option (List (List Str)))) => (eOp (eTu (eTu eStr)) (fun _ => rfl)).f r)))) (ts_val (es_onP (ep_es (es_var rfl)) (ep_es (es_tup (as_nil) (le_small (k := 0) rfl (by decide)))) (q_eq (eTu (eTu eStr)) (by decide) _ _))) (fun hb39 => ok_retSeq (ok_retE rfl rfl (es_none es_c)))
    (fun hb39 => ok_nxSeq (ok_retE rfl rfl (es_some (e := (eTu (eTu eStr))) (hn := fun _ => rfl) (x := ((t_law_left teams_here (t_law_without here gone)).filter (fun (other : (List Str)) => (decide (((other.filter (fun (name : Str) => (!decide (name ∈ team)))).length : Int) ≤ limit))))) (es_tupL (ep_es (es_en (en_f1 (en_lc (t_law_left teams_here (t_law_without here gone)) (eTu eStr).f (fun (other : (List Str)) => (decide (((other.filter (fun (name : Str) => (!decide (name ∈ team)))).length : Int) ≤ limit))) (fun (other : (List Str)) => other) (eTu eStr).f (fun (other : (List Str)) => [some (.p ((eTu (eTu eStr)).f teams_here)), some (.p ((eTu eStr).f here)), some (.p ((eTu eStr).f team)), some (.p (eStr.f gone)), some (.p (eInt.f limit)), some (.p ((eTu eStr).f (t_law_without here gone))), some (.p ((eTu (eTu eStr)).f (t_law_left teams_here (t_law_without here gone)))), some (.p ((eTu eStr).f other)), none]) (is_tup (es_var rfl)) (((h.2 hb38).2 hb39).1) (fun _ _ => rfl) (fun other hx40 => ts_val (es_onP (ep_es (es_lenL' (ep_es (es_en (en_f1 (en_lc other eStr.f (fun (name : Str) => (!decide (name ∈ team))) (fun (name : Str) => name) eStr.f (fun (name : Str) => [some (.p ((eTu (eTu eStr)).f teams_here)), some (.p ((eTu eStr).f here)), some (.p ((eTu eStr).f team)), some (.p (eStr.f gone)), some (.p (eInt.f limit)), some (.p ((eTu eStr).f (t_law_without here gone))), some (.p ((eTu (eTu eStr)).f (t_law_left teams_here (t_law_without here gone)))), some (.p ((eTu eStr).f other)), some (.p (eStr.f name))]) (is_tup (es_var rfl)) ((((h.2 hb38).2 hb39).2 other hx40)) (fun _ _ => rfl) (fun name hx42 => ts_val (es_onP (ep_es (es_var rfl)) (ep_es (es_var rfl)) (q_niT eStr (by decide) _ _))) (fun name hx42 hb43 => es_var rfl))))))) (ep_es (es_var rfl)) (gLe_int _ _))) (fun other hx40 hb41 => es_var rfl)))))))))))))
noncomputable def φ_law_loss_word : SFn :=
    sSeq (sIf (tVal (eBin (onP gNotIn) (eVar 3) (eVar 2)))
    (sRet (eD (.p (.str "stays"))))
    (sNx))
    (sSeq (sSet 5 (eCallU fs_law_next 5 0 [.at 0, .at 1, .at 2, .at 3, .at 4] (aCons (eVar 0) (aCons (eVar 1) (aCons (eVar 2) (aCons (eVar 3) (aCons (eVar 4) (aNil)))))) aNil))
    (sSeq (sIf (tVal (eBin dIs (eVar 5) (eD (.p .none))))
    (sRet (eD (.p (.str "over"))))
    (sNx))
    (sRet (eIf (tVal (eBin (onP gNe) (eVar 5) (eTup (aNil)))) (eD (.p (.str "open"))) (eD (.p (.str "stuck")))))))
noncomputable def fs_law_loss_word : FS := defF 6 φ_law_loss_word
def t_law_loss_word (teams_here : (List (List Str))) (here : (List Str)) (team : (List Str)) (gone : Str) (limit : Int) : Str := (if (!decide (gone ∈ team)) = true then ("stays" : Str) else (if (t_law_next teams_here here team gone limit).isNone = true then ("over" : Str) else (if (!decide (((t_law_next teams_here here team gone limit).getD default) = [])) = true then ("open" : Str) else ("stuck" : Str))))
def pre_law_loss_word (teams_here : (List (List Str))) (here : (List Str)) (team : (List Str)) (gone : Str) (limit : Int) : Prop := (!decide (gone ∈ team)) = false → pre_law_next teams_here here team gone limit
theorem eq_law_loss_word {M : Mem} (teams_here : (List (List Str))) (here : (List Str)) (team : (List Str)) (gone : Str) (limit : Int) (h : pre_law_loss_word teams_here here team gone limit) : FS1 fs_law_loss_word [.p ((eTu (eTu eStr)).f teams_here), .p ((eTu eStr).f here), .p ((eTu eStr).f team), .p (eStr.f gone), .p (eInt.f limit)] M (.p (eStr.f (t_law_loss_word teams_here here team gone limit))) := by
  refine fs_of (f := (fun (r : Str) => eStr.f r)) (v := (t_law_loss_word teams_here here team gone limit)) (ρ := [some (.p ((eTu (eTu eStr)).f teams_here)), some (.p ((eTu eStr).f here)), some (.p ((eTu eStr).f team)), some (.p (eStr.f gone)), some (.p (eInt.f limit)), none]) rfl ?_
  exact ok_ifSeq (Q := (KDf M.length (fun (_ : Str) => M) (TDf (fun (r : Str) => eStr.f r)))) (ts_val (es_onP (ep_es (es_var rfl)) (ep_es (es_var rfl)) (q_niT eStr (by decide) _ _))) (fun hb44 => ok_retSeq (ok_retE rfl rfl (es_c)))
    (fun hb44 => ok_nxSeq (ok_seqS (ρ1 := [some (.p ((eTu (eTu eStr)).f teams_here)), some (.p ((eTu eStr).f here)), some (.p ((eTu eStr).f team)), some (.p (eStr.f gone)), some (.p (eInt.f limit)), some (.p ((eOp (eTu (eTu eStr)) (fun _ => rfl)).f (t_law_next teams_here here team gone limit)))]) (M1 := M ++ [])  (ss_set (es_call (as_cons (es_var (d := .p ((eTu (eTu eStr)).f teams_here)) rfl) (as_cons (es_var (d := .p ((eTu eStr).f here)) rfl) (as_cons (es_var (d := .p ((eTu eStr).f team)) rfl) (as_cons (es_var (d := .p (eStr.f gone)) rfl) (as_cons (es_var (d := .p (eInt.f limit)) rfl) (as_nil)))))) (as_nil) ⟨rfl, rfl⟩ (by rfl) (eq_law_next teams_here here team gone limit ((h hb44)))))
    (ok_ifSeq (Q := (KDf M.length (fun (_ : Str) => M) (TDf (fun (r : Str) => eStr.f r)))) (ts_val (es_isN (es_var rfl) es_c)) (fun hb45 => ok_retSeq (ok_retE rfl rfl (es_c)))
    (fun hb45 => opt_cast (i := 5) (e := (eTu (eTu eStr))) (hn := fun _ => rfl) (v := (t_law_next teams_here here team gone limit)) (by simpa using hb45) rfl (ok_nxSeq (ok_retE rfl rfl (es_if (fun x => .p (eStr.f x)) (ts_val (es_onP (ep_es (es_var rfl)) (ep_es (es_tup (as_nil) (le_small (k := 0) rfl (by decide)))) (q_ne (eTu (eTu eStr)) (by decide) _ _))) (fun hb46 => es_c) (fun hb46 => es_c))))))))
end Fz

set_option Elab.async false
set_option linter.all false
set_option maxRecDepth 100000
/-! defs of law_k19_several_losses: meaning, typed function, agreement (printed by fz.py) -/
namespace Fz
open PySem PySem.Spec PyProof.Rows L2 Cb
open PySem.W (Datum DatumOrd Tup)
noncomputable def φ_law_subset : SFn :=
    sRet (eCallB bTuple (aCons (eLc (iE (eVar 1)) (gNm 2) (tVal (eBin (onP gEq) (eCallU fs_law_draw 2 0 [.at 0, .at 1] (aCons (eVar 0) (aCons (eD (.p (.int 2))) (aNil))) aNil) (eD (.p (.int 0))))) (eVar 2) [2]) (aNil)))
noncomputable def fs_law_subset : FS := defF 3 φ_law_subset
def t_law_subset_x2 (feed_here : ((List Int) × Int × Int × Int)) (some_ : (List Str)) (s : ((List Int) × Int × Int × Int)) (one : Str) : (Int × ((List Int) × Int × Int × Int)) := t_law_draw s (2 : Int)
def t_law_subset_c1 (feed_here : ((List Int) × Int × Int × Int)) (some_ : (List Str)) (s : ((List Int) × Int × Int × Int)) (one : Str) : Option Str × ((List Int) × Int × Int × Int) := (if (decide ((t_law_subset_x2 feed_here some_ s one).1 = (0 : Int))) = true then (some one, (t_law_subset_x2 feed_here some_ s one).2) else (none, (t_law_subset_x2 feed_here some_ s one).2))
def pre_law_subset_c1 (feed_here : ((List Int) × Int × Int × Int)) (some_ : (List Str)) (s : ((List Int) × Int × Int × Int)) (one : Str) : Prop := pre_law_draw s (2 : Int)
def t_law_subset_d1 (feed_here : ((List Int) × Int × Int × Int)) (some_ : (List Str)) : List Str × ((List Int) × Int × Int × Int) := lcS (t_law_subset_c1 feed_here some_) some_ feed_here
def t_law_subset (feed_here : ((List Int) × Int × Int × Int)) (some_ : (List Str)) : ((List Str) × ((List Int) × Int × Int × Int)) := ((t_law_subset_d1 feed_here some_).1, (t_law_subset_d1 feed_here some_).2)
def pre_law_subset (feed_here : ((List Int) × Int × Int × Int)) (some_ : (List Str)) : Prop := (some_.length ≤ sizeLine) ∧ (preS (t_law_subset_c1 feed_here some_) (pre_law_subset_c1 feed_here some_) some_ feed_here)
theorem eq_law_subset {M : Mem} {n : Nat} (feed_here : ((List Int) × Int × Int × Int)) (some_ : (List Str)) (hc : M[n]? = some (MObj.lst [(eLi eInt).f (feed_here).1, eInt.f (feed_here).2.1, eInt.f (feed_here).2.2.1, eInt.f (feed_here).2.2.2])) (h : pre_law_subset feed_here some_) : FR1 fs_law_subset [.obj n, .p ((eTu eStr).f some_)] M (.p ((eTu eStr).f (t_law_subset feed_here some_).1)) (M.set n (MObj.lst [(eLi eInt).f ((t_law_subset feed_here some_).2).1, eInt.f ((t_law_subset feed_here some_).2).2.1, eInt.f ((t_law_subset feed_here some_).2).2.2.1, eInt.f ((t_law_subset feed_here some_).2).2.2.2])) := by
  have hn := lt_of_at hc
  refine fr_start hc (fr_of (f := (fun (r : ((List Str) × ((List Int) × Int × Int × Int))) => (eTu eStr).f r.1)) (mem := (fun (r : ((List Str) × ((List Int) × Int × Int × Int))) => M.set n (MObj.lst [(eLi eInt).f (r.2).1, eInt.f (r.2).2.1, eInt.f (r.2).2.2.1, eInt.f (r.2).2.2.2]))) (v := (t_law_subset feed_here some_)) (k := M.length) (ρ := [some (.obj n), some (.p ((eTu eStr).f some_)), none]) rfl List.length_set ?_)
  exact ok_retF (M0 := (M.set n (MObj.lst [(eLi eInt).f ((t_law_subset_d1 feed_here some_).2).1, eInt.f ((t_law_subset_d1 feed_here some_).2).2.1, eInt.f ((t_law_subset_d1 feed_here some_).2).2.2.1, eInt.f ((t_law_subset_d1 feed_here some_).2).2.2.2]))) (Rs := []) List.length_set rfl (ef_tupleB (ef_efn (efn_lcS some_ eStr.f (t_law_subset_c1 feed_here some_) eStr.f (fun (one : Str) => [some (.obj n), some (.p ((eTu eStr).f some_)), some (.p (eStr.f one))]) (fun (s : ((List Int) × Int × Int × Int)) => (M.set n (MObj.lst [(eLi eInt).f (s).1, eInt.f (s).2.1, eInt.f (s).2.2.1, eInt.f (s).2.2.2])) ++ []) (pre_law_subset_c1 feed_here some_) feed_here (if_il (il_tup (es_var rfl))) rfl (h.1) (fun _ _ => rfl) (fun s one hx1 hs2 => lcb_if (b := (decide ((t_law_subset_x2 feed_here some_ s one).1 = (0 : Int)))) (s1 := (t_law_subset_x2 feed_here some_ s one).2) (s2 := (t_law_subset_x2 feed_here some_ s one).2) (y := one) (te_val (ef_onP (ef_call (af_cons (ef_es (es_var (d := .obj n) rfl)) (af_cons (ef_es (es_c)) (af_nil))) (af_nil) ⟨rfl, rfl⟩ (by rfl) (fr_par hn (eq_law_draw s (2 : Int) (par_at hn) (hs2)))) (ef_es (es_c)) (rfl) (rfl) (q_eq eInt (by decide) _ _))) (fun hb3 => ef_es (es_var (d := .p (eStr.f one)) rfl))) (h.2))))
end Fz

set_option Elab.async false
set_option linter.all false
set_option maxRecDepth 100000
/-! defs of law_k19_several_losses: meaning, typed function, agreement (printed by fz.py) -/
namespace Fz
open PySem PySem.Spec PyProof.Rows L2 Cb
open PySem.W (Datum DatumOrd Tup)
noncomputable def φ_after : SFn :=
    sSeq (sDrop (eCallV fs_require_people (aCons (eVar 0) (aCons (eVar 1) (aCons (eVar 2) (aNil))))))
    (sSeq (sSet 3 (eCallV fs_present_without (aCons (eVar 1) (aStar (eVar 2) (aNil)))))
    (sRet (eTup (aCons (eVar 3) (aCons (eCallU fs_left_in 2 0 [.at 0, .at 1] (aCons (eVar 0) (aCons (eVar 3) (aNil))) aNil) (aNil))))))
noncomputable def fb_after : FS := defF 4 φ_after
noncomputable def fs_after : FS := starF 2 fb_after
def t_after (crews : (List (List Str))) (present : (List Str)) (lost : (List Str)) : ((List Str) × (List (List Str))) := ((t_present_without present (lost)), (t_left_in crews (t_present_without present (lost))))
def pre_after (crews : (List (List Str))) (present : (List Str)) (lost : (List Str)) : Prop := (pre_require_people crews ([present] ++ [lost])) ∧ (((pre_present_without present (lost)) ∧ ((lost).length ≤ sizeLine)) ∧ (pre_left_in crews (t_present_without present (lost))))
theorem eq_after {M : Mem} (crews : (List (List Str))) (present : (List Str)) (lost : (List Str)) (h : pre_after crews present lost) : FS1 fb_after [.p ((eTu (eTu eStr)).f crews), .p ((eTu eStr).f present), .p ((eTu eStr).f lost)] M (.p ((ePr (eTu eStr) (eTu (eTu eStr))).f (t_after crews present lost))) := by
  refine fs_of (f := (fun (r : ((List Str) × (List (List Str)))) => (ePr (eTu eStr) (eTu (eTu eStr))).f r)) (v := (t_after crews present lost)) (ρ := [some (.p ((eTu (eTu eStr)).f crews)), some (.p ((eTu eStr).f present)), some (.p ((eTu eStr).f lost)), none]) rfl ?_
  exact ok_seqS (ρ1 := [some (.p ((eTu (eTu eStr)).f crews)), some (.p ((eTu eStr).f present)), some (.p ((eTu eStr).f lost)), none]) (M1 := M ++ [])  (ss_drop (es_callV (as_cons (es_var (d := .p ((eTu (eTu eStr)).f crews)) rfl) (as_cons (es_var (d := .p ((eTu eStr).f present)) rfl) (as_cons (es_var (d := .p ((eTu eStr).f lost)) rfl) (as_nil)))) (eqv_require_people crews ([present] ++ [lost]) (h.1) (le_small (k := 2) rfl (by decide)))))
    (ok_seqS (ρ1 := [some (.p ((eTu (eTu eStr)).f crews)), some (.p ((eTu eStr).f present)), some (.p ((eTu eStr).f lost)), some (.p ((eTu eStr).f (t_present_without present (lost))))]) (M1 := M ++ [])  (ss_set (es_callV (as_cons (es_var (d := .p ((eTu eStr).f present)) rfl) (as_starT0 (ep_es (es_var rfl)))) (eqv_present_without present (lost) (h.2.1.1) (h.2.1.2))))
    (ok_retE rfl rfl (es_tup (as_cons (es_var (d := .p ((eTu eStr).f (t_present_without present (lost)))) rfl) (as_cons (es_call (as_cons (es_var (d := .p ((eTu (eTu eStr)).f crews)) rfl) (as_cons (es_var (d := .p ((eTu eStr).f (t_present_without present (lost)))) rfl) (as_nil))) (as_nil) ⟨rfl, rfl⟩ (by rfl) (eq_left_in crews (t_present_without present (lost)) (h.2.2))) (as_nil))) (le_small (k := 2) rfl (by decide)))))
theorem eqv_after {M : Mem} (crews : (List (List Str))) (present : (List Str)) (lost : (List Str)) (h : pre_after crews present lost) (hz : lost.length ≤ sizeLine) : FS1 fs_after ([.p ((eTu (eTu eStr)).f crews), .p ((eTu eStr).f present)] ++ (lost.map eStr.f).map .p) M (.p ((ePr (eTu eStr) (eTu (eTu eStr))).f (t_after crews present lost))) := fs_star (eq_after crews present lost h) rfl (by rw [List.length_map]; exact hz)
end Fz

set_option Elab.async false
set_option linter.all false
set_option maxRecDepth 100000
/-! defs of law_k19_several_losses: meaning, typed function, agreement (printed by fz.py) -/
namespace Fz
open PySem PySem.Spec PyProof.Rows L2 Cb
open PySem.W (Datum DatumOrd Tup)
noncomputable def φ_law_told : SFn :=
    sSeq (sIf (tVal (eBin (onP gEq) (eCallB bLen (aCons (eVar 2) (aNil))) (eD (.p (.int 0)))))
    (sSeq (sSet 3 (eCallV fs_after (aCons (eVar 0) (aCons (eVar 1) (aNil)))))
    (sRet (eIf (tVal (eBin (onP gEq) (eCallB bRepr (aCons (eCallK (starK [.at 1, .at 0] 2 fb_after) 2 (aCons (eVar 1) (aCons (eVar 0) (aNil)))) (aNil))) (eCallB bRepr (aCons (eVar 3) (aNil))))) (eVar 3) (eD (.p .none)))))
    (sNx))
    (sSeq (sIf (tVal (eBin (onP gEq) (eCallB bLen (aCons (eVar 2) (aNil))) (eD (.p (.int 1)))))
    (sRet (eCallV fs_after (aCons (eVar 0) (aCons (eVar 1) (aCons (eBin dSub (eVar 2) (eD (.p (.int 0)))) (aNil))))))
    (sNx))
    (sSeq (sIf (tVal (eBin (onP gEq) (eCallB bLen (aCons (eVar 2) (aNil))) (eD (.p (.int 2)))))
    (sRet (eCallV fs_after (aCons (eVar 0) (aCons (eVar 1) (aCons (eBin dSub (eVar 2) (eD (.p (.int 0)))) (aCons (eBin dSub (eVar 2) (eD (.p (.int 1)))) (aNil)))))))
    (sNx))
    (sSeq (sIf (tVal (eBin (onP gEq) (eCallB bLen (aCons (eVar 2) (aNil))) (eD (.p (.int 3)))))
    (sRet (eCallV fs_after (aCons (eVar 0) (aCons (eVar 1) (aCons (eBin dSub (eVar 2) (eD (.p (.int 0)))) (aCons (eBin dSub (eVar 2) (eD (.p (.int 1)))) (aCons (eBin dSub (eVar 2) (eD (.p (.int 2)))) (aNil))))))))
    (sNx))
    (sSeq (sIf (tVal (eBin (onP gLt) (eCallB bLen (aCons (eVar 2) (aNil))) (eD (.p (.int 8)))))
    (sRet (eCallV fs_after (aCons (eVar 0) (aCons (eVar 1) (aCons (eBin dSub (eVar 2) (eD (.p (.int 0)))) (aCons (eBin dSub (eVar 2) (eD (.p (.int 1)))) (aCons (eBin dSub (eVar 2) (eD (.p (.int 2)))) (aCons (eBin dSub (eVar 2) (eD (.p (.int 3)))) (aNil)))))))))
    (sNx))
    (sRet (eCallV fs_after (aCons (eVar 0) (aCons (eVar 1) (aCons (eBin dSub (eVar 2) (eD (.p (.int 0)))) (aCons (eBin dSub (eVar 2) (eD (.p (.int 1)))) (aCons (eBin dSub (eVar 2) (eD (.p (.int 2)))) (aCons (eBin dSub (eVar 2) (eD (.p (.int 3)))) (aCons (eBin dSub (eVar 2) (eD (.p (.int 4)))) (aCons (eBin dSub (eVar 2) (eD (.p (.int 5)))) (aCons (eBin dSub (eVar 2) (eD (.p (.int 6)))) (aCons (eBin dSub (eVar 2) (eD (.p (.int 7)))) (aNil)))))))))))))))))
noncomputable def fs_law_told : FS := defF 4 φ_law_told
def t_law_told (teams_here : (List (List Str))) (here : (List Str)) (gone : (List Str)) : (Option ((List Str) × (List (List Str)))) := (if (decide ((gone.length : Int) = (0 : Int))) = true then (if (decide (((ePr (eTu eStr) (eTu (eTu eStr))).f (t_after teams_here here [])).shown = ((ePr (eTu eStr) (eTu (eTu eStr))).f (t_after teams_here here [])).shown)) = true then (some (t_after teams_here here [])) else none) else (if (decide ((gone.length : Int) = (1 : Int))) = true then (some (t_after teams_here here ([(ixE gone (0 : Int))]))) else (if (decide ((gone.length : Int) = (2 : Int))) = true then (some (t_after teams_here here ([(ixE gone (0 : Int))] ++ [(ixE gone (1 : Int))]))) else (if (decide ((gone.length : Int) = (3 : Int))) = true then (some (t_after teams_here here ([(ixE gone (0 : Int))] ++ [(ixE gone (1 : Int))] ++ [(ixE gone (2 : Int))]))) else (if (decide ((gone.length : Int) < (8 : Int))) = true then (some (t_after teams_here here ([(ixE gone (0 : Int))] ++ [(ixE gone (1 : Int))] ++ [(ixE gone (2 : Int))] ++ [(ixE gone (3 : Int))]))) else (some (t_after teams_here here ([(ixE gone (0 : Int))] ++ [(ixE gone (1 : Int))] ++ [(ixE gone (2 : Int))] ++ [(ixE gone (3 : Int))] ++ [(ixE gone (4 : Int))] ++ [(ixE gone (5 : Int))] ++ [(ixE gone (6 : Int))] ++ [(ixE gone (7 : Int))]))))))))
def pre_law_told (teams_here : (List (List Str))) (here : (List Str)) (gone : (List Str)) : Prop := ((decide ((gone.length : Int) = (0 : Int))) = true → (pre_after teams_here here []) ∧ (((pre_after teams_here here []) ∧ (reprOk ((ePr (eTu eStr) (eTu (eTu eStr))).f (t_after teams_here here [])) = true)) ∧ (reprOk ((ePr (eTu eStr) (eTu (eTu eStr))).f (t_after teams_here here [])) = true))) ∧ ((decide ((gone.length : Int) = (0 : Int))) = false → ((decide ((gone.length : Int) = (1 : Int))) = true → ((atI gone (0 : Int)).isSome = true) ∧ (pre_after teams_here here ([(ixE gone (0 : Int))]))) ∧ ((decide ((gone.length : Int) = (1 : Int))) = false → ((decide ((gone.length : Int) = (2 : Int))) = true → ((atI gone (0 : Int)).isSome = true) ∧ ((atI gone (1 : Int)).isSome = true) ∧ (pre_after teams_here here ([(ixE gone (0 : Int))] ++ [(ixE gone (1 : Int))]))) ∧ ((decide ((gone.length : Int) = (2 : Int))) = false → ((decide ((gone.length : Int) = (3 : Int))) = true → ((atI gone (0 : Int)).isSome = true) ∧ ((atI gone (1 : Int)).isSome = true) ∧ ((atI gone (2 : Int)).isSome = true) ∧ (pre_after teams_here here ([(ixE gone (0 : Int))] ++ [(ixE gone (1 : Int))] ++ [(ixE gone (2 : Int))]))) ∧ ((decide ((gone.length : Int) = (3 : Int))) = false → ((decide ((gone.length : Int) < (8 : Int))) = true → ((atI gone (0 : Int)).isSome = true) ∧ ((atI gone (1 : Int)).isSome = true) ∧ ((atI gone (2 : Int)).isSome = true) ∧ ((atI gone (3 : Int)).isSome = true) ∧ (pre_after teams_here here ([(ixE gone (0 : Int))] ++ [(ixE gone (1 : Int))] ++ [(ixE gone (2 : Int))] ++ [(ixE gone (3 : Int))]))) ∧ ((decide ((gone.length : Int) < (8 : Int))) = false → ((atI gone (0 : Int)).isSome = true) ∧ ((atI gone (1 : Int)).isSome = true) ∧ ((atI gone (2 : Int)).isSome = true) ∧ ((atI gone (3 : Int)).isSome = true) ∧ ((atI gone (4 : Int)).isSome = true) ∧ ((atI gone (5 : Int)).isSome = true) ∧ ((atI gone (6 : Int)).isSome = true) ∧ ((atI gone (7 : Int)).isSome = true) ∧ (pre_after teams_here here ([(ixE gone (0 : Int))] ++ [(ixE gone (1 : Int))] ++ [(ixE gone (2 : Int))] ++ [(ixE gone (3 : Int))] ++ [(ixE gone (4 : Int))] ++ [(ixE gone (5 : Int))] ++ [(ixE gone (6 : Int))] ++ [(ixE gone (7 : Int))])))))))
theorem eq_law_told {M : Mem} (teams_here : (List (List Str))) (here : (List Str)) (gone : (List Str)) (h : pre_law_told teams_here here gone) : FS1 fs_law_told [.p ((eTu (eTu eStr)).f teams_here), .p ((eTu eStr).f here), .p ((eLi eStr).f gone)] M (.p ((eOp (ePr (eTu eStr) (eTu (eTu eStr))) (fun _ => rfl)).f (t_law_told teams_here here gone))) := by
  refine fs_of (f := (fun (r : (Option ((List Str) × (List (List Str))))) => (eOp (ePr (eTu eStr) (eTu (eTu eStr))) (fun _ => rfl)).f r)) (v := (t_law_told teams_here here gone)) (ρ := [some (.p ((eTu (eTu eStr)).f teams_here)), some (.p ((eTu eStr).f here)), some (.p ((eLi eStr).f gone)), none]) rfl ?_
  exact ok_ifSeq (Q := (KDf M.length (fun (_ : (Option ((List Str) × (List (List Str))))) => M) (TDf (fun (r : (Option ((List Str) × (List (List Str))))) => (eOp (ePr (eTu eStr) (eTu (eTu eStr))) (fun _ => rfl)).f r)))) (ts_val (es_onP (ep_es (es_lenL' (ep_es (es_var rfl)))) (ep_es (es_c)) (q_eq eInt (by decide) _ _))) (fun hb1 => ok_assoc (ok_seqS (ρ1 := [some (.p ((eTu (eTu eStr)).f teams_here)), some (.p ((eTu eStr).f here)), some (.p ((eLi eStr).f gone)), some (.p ((ePr (eTu eStr) (eTu (eTu eStr))).f (t_after teams_here here [])))]) (M1 := M ++ [])  (ss_set (es_callV (as_cons (es_var (d := .p ((eTu (eTu eStr)).f teams_here)) rfl) (as_cons (es_var (d := .p ((eTu eStr).f here)) rfl) (as_nil))) (eqv_after teams_here here [] ((h.1 hb1).1) (le_small (k := 0) rfl (by decide)))))
    (ok_retSeq (ok_retE rfl rfl (es_if (fun x => .p ((eOp (ePr (eTu eStr) (eTu (eTu eStr))) (fun _ => rfl)).f x)) (ts_val (es_onP (ep_es (es_repr (x := (ePr (eTu eStr) (eTu (eTu eStr))).f (t_after teams_here here [])) (ep_es (es_callK (bs := [.p ((eTu (eTu eStr)).f teams_here), .p ((eTu eStr).f here)]) (as_cons (es_var (d := .p ((eTu eStr).f here)) rfl) (as_cons (es_var (d := .p ((eTu (eTu eStr)).f teams_here)) rfl) (as_nil))) rfl (by rfl) rfl (eq_after teams_here here [] ((h.1 hb1).2.1.1)))) ((h.1 hb1).2.1.2))) (ep_es (es_repr (x := (ePr (eTu eStr) (eTu (eTu eStr))).f (t_after teams_here here [])) (ep_es (es_var rfl)) ((h.1 hb1).2.2))) (q_eq eStr (by decide) _ _))) (fun hb2 => es_some (e := (ePr (eTu eStr) (eTu (eTu eStr)))) (hn := fun _ => rfl) (x := (t_after teams_here here [])) (es_var (d := .p ((ePr (eTu eStr) (eTu (eTu eStr))).f (t_after teams_here here []))) rfl)) (fun hb2 => es_none es_c))))))
    (fun hb1 => ok_nxSeq (ok_ifSeq (Q := (KDf M.length (fun (_ : (Option ((List Str) × (List (List Str))))) => M) (TDf (fun (r : (Option ((List Str) × (List (List Str))))) => (eOp (ePr (eTu eStr) (eTu (eTu eStr))) (fun _ => rfl)).f r)))) (ts_val (es_onP (ep_es (es_lenL' (ep_es (es_var rfl)))) (ep_es (es_c)) (q_eq eInt (by decide) _ _))) (fun hb3 => ok_retSeq (ok_retE rfl rfl (es_some (e := (ePr (eTu eStr) (eTu (eTu eStr)))) (hn := fun _ => rfl) (x := (t_after teams_here here ([(ixE gone (0 : Int))]))) (es_callV (as_cons (es_var (d := .p ((eTu (eTu eStr)).f teams_here)) rfl) (as_cons (es_var (d := .p ((eTu eStr).f here)) rfl) (as_cons (es_subL eStr (ep_es (es_var rfl)) (es_c) (ixE_ok (((h.2 hb1).1 hb3).1))) (as_nil)))) (eqv_after teams_here here ([(ixE gone (0 : Int))]) (((h.2 hb1).1 hb3).2) (le_small (k := 1) rfl (by decide)))))))
    (fun hb3 => ok_nxSeq (ok_ifSeq (Q := (KDf M.length (fun (_ : (Option ((List Str) × (List (List Str))))) => M) (TDf (fun (r : (Option ((List Str) × (List (List Str))))) => (eOp (ePr (eTu eStr) (eTu (eTu eStr))) (fun _ => rfl)).f r)))) (ts_val (es_onP (ep_es (es_lenL' (ep_es (es_var rfl)))) (ep_es (es_c)) (q_eq eInt (by decide) _ _))) (fun hb4 => ok_retSeq (ok_retE rfl rfl (es_some (e := (ePr (eTu eStr) (eTu (eTu eStr)))) (hn := fun _ => rfl) (x := (t_after teams_here here ([(ixE gone (0 : Int))] ++ [(ixE gone (1 : Int))]))) (es_callV (as_cons (es_var (d := .p ((eTu (eTu eStr)).f teams_here)) rfl) (as_cons (es_var (d := .p ((eTu eStr).f here)) rfl) (as_cons (es_subL eStr (ep_es (es_var rfl)) (es_c) (ixE_ok ((((h.2 hb1).2 hb3).1 hb4).1))) (as_cons (es_subL eStr (ep_es (es_var rfl)) (es_c) (ixE_ok ((((h.2 hb1).2 hb3).1 hb4).2.1))) (as_nil))))) (eqv_after teams_here here ([(ixE gone (0 : Int))] ++ [(ixE gone (1 : Int))]) ((((h.2 hb1).2 hb3).1 hb4).2.2) (le_small (k := 2) rfl (by decide)))))))
    (fun hb4 => ok_nxSeq (ok_ifSeq (Q := (KDf M.length (fun (_ : (Option ((List Str) × (List (List Str))))) => M) (TDf (fun (r : (Option ((List Str) × (List (List Str))))) => (eOp (ePr (eTu eStr) (eTu (eTu eStr))) (fun _ => rfl)).f r)))) (ts_val (es_onP (ep_es (es_lenL' (ep_es (es_var rfl)))) (ep_es (es_c)) (q_eq eInt (by decide) _ _))) (fun hb5 => ok_retSeq (ok_retE rfl rfl (es_some (e := (ePr (eTu eStr) (eTu (eTu eStr)))) (hn := fun _ => rfl) (x := (t_after teams_here here ([(ixE gone (0 : Int))] ++ [(ixE gone (1 : Int))] ++ [(ixE gone (2 : Int))]))) (es_callV (as_cons (es_var (d := .p ((eTu (eTu eStr)).f teams_here)) rfl) (as_cons (es_var (d := .p ((eTu eStr).f here)) rfl) (as_cons (es_subL eStr (ep_es (es_var rfl)) (es_c) (ixE_ok (((((h.2 hb1).2 hb3).2 hb4).1 hb5).1))) (as_cons (es_subL eStr (ep_es (es_var rfl)) (es_c) (ixE_ok (((((h.2 hb1).2 hb3).2 hb4).1 hb5).2.1))) (as_cons (es_subL eStr (ep_es (es_var rfl)) (es_c) (ixE_ok (((((h.2 hb1).2 hb3).2 hb4).1 hb5).2.2.1))) (as_nil)))))) (eqv_after teams_here here ([(ixE gone (0 : Int))] ++ [(ixE gone (1 : Int))] ++ [(ixE gone (2 : Int))]) (((((h.2 hb1).2 hb3).2 hb4).1 hb5).2.2.2) (le_small (k := 3) rfl (by decide)))))))
    (fun hb5 => ok_nxSeq (ok_ifSeq (Q := (KDf M.length (fun (_ : (Option ((List Str) × (List (List Str))))) => M) (TDf (fun (r : (Option ((List Str) × (List (List Str))))) => (eOp (ePr (eTu eStr) (eTu (eTu eStr))) (fun _ => rfl)).f r)))) (ts_val (es_onP (ep_es (es_lenL' (ep_es (es_var rfl)))) (ep_es (es_c)) (gLt_int _ _))) (fun hb6 => ok_retSeq (ok_retE rfl rfl (es_some (e := (ePr (eTu eStr) (eTu (eTu eStr)))) (hn := fun _ => rfl) (x := (t_after teams_here here ([(ixE gone (0 : Int))] ++ [(ixE gone (1 : Int))] ++ [(ixE gone (2 : Int))] ++ [(ixE gone (3 : Int))]))) (es_callV (as_cons (es_var (d := .p ((eTu (eTu eStr)).f teams_here)) rfl) (as_cons (es_var (d := .p ((eTu eStr).f here)) rfl) (as_cons (es_subL eStr (ep_es (es_var rfl)) (es_c) (ixE_ok ((((((h.2 hb1).2 hb3).2 hb4).2 hb5).1 hb6).1))) (as_cons (es_subL eStr (ep_es (es_var rfl)) (es_c) (ixE_ok ((((((h.2 hb1).2 hb3).2 hb4).2 hb5).1 hb6).2.1))) (as_cons (es_subL eStr (ep_es (es_var rfl)) (es_c) (ixE_ok ((((((h.2 hb1).2 hb3).2 hb4).2 hb5).1 hb6).2.2.1))) (as_cons (es_subL eStr (ep_es (es_var rfl)) (es_c) (ixE_ok ((((((h.2 hb1).2 hb3).2 hb4).2 hb5).1 hb6).2.2.2.1))) (as_nil))))))) (eqv_after teams_here here ([(ixE gone (0 : Int))] ++ [(ixE gone (1 : Int))] ++ [(ixE gone (2 : Int))] ++ [(ixE gone (3 : Int))]) ((((((h.2 hb1).2 hb3).2 hb4).2 hb5).1 hb6).2.2.2.2) (le_small (k := 4) rfl (by decide)))))))
    (fun hb6 => ok_nxSeq (ok_retE rfl rfl (es_some (e := (ePr (eTu eStr) (eTu (eTu eStr)))) (hn := fun _ => rfl) (x := (t_after teams_here here ([(ixE gone (0 : Int))] ++ [(ixE gone (1 : Int))] ++ [(ixE gone (2 : Int))] ++ [(ixE gone (3 : Int))] ++ [(ixE gone (4 : Int))] ++ [(ixE gone (5 : Int))] ++ [(ixE gone (6 : Int))] ++ [(ixE gone (7 : Int))]))) (es_callV (as_cons (es_var (d := .p ((eTu (eTu eStr)).f teams_here)) rfl) (as_cons (es_var (d := .p ((eTu eStr).f here)) rfl) (as_cons (es_subL eStr (ep_es (es_var rfl)) (es_c) (ixE_ok ((((((h.2 hb1).2 hb3).2 hb4).2 hb5).2 hb6).1))) (as_cons (es_subL eStr (ep_es (es_var rfl)) (es_c) (ixE_ok ((((((h.2 hb1).2 hb3).2 hb4).2 hb5).2 hb6).2.1))) (as_cons (es_subL eStr (ep_es (es_var rfl)) (es_c) (ixE_ok ((((((h.2 hb1).2 hb3).2 hb4).2 hb5).2 hb6).2.2.1))) (as_cons (es_subL eStr (ep_es (es_var rfl)) (es_c) (ixE_ok ((((((h.2 hb1).2 hb3).2 hb4).2 hb5).2 hb6).2.2.2.1))) (as_cons (es_subL eStr (ep_es (es_var rfl)) (es_c) (ixE_ok ((((((h.2 hb1).2 hb3).2 hb4).2 hb5).2 hb6).2.2.2.2.1))) (as_cons (es_subL eStr (ep_es (es_var rfl)) (es_c) (ixE_ok ((((((h.2 hb1).2 hb3).2 hb4).2 hb5).2 hb6).2.2.2.2.2.1))) (as_cons (es_subL eStr (ep_es (es_var rfl)) (es_c) (ixE_ok ((((((h.2 hb1).2 hb3).2 hb4).2 hb5).2 hb6).2.2.2.2.2.2.1))) (as_cons (es_subL eStr (ep_es (es_var rfl)) (es_c) (ixE_ok ((((((h.2 hb1).2 hb3).2 hb4).2 hb5).2 hb6).2.2.2.2.2.2.2.1))) (as_nil))))))))))) (eqv_after teams_here here ([(ixE gone (0 : Int))] ++ [(ixE gone (1 : Int))] ++ [(ixE gone (2 : Int))] ++ [(ixE gone (3 : Int))] ++ [(ixE gone (4 : Int))] ++ [(ixE gone (5 : Int))] ++ [(ixE gone (6 : Int))] ++ [(ixE gone (7 : Int))]) ((((((h.2 hb1).2 hb3).2 hb4).2 hb5).2 hb6).2.2.2.2.2.2.2.2) (le_small (k := 8) rfl (by decide)))))))))))))))
noncomputable def φ_law_agrees_2 : SFn :=
    sSeq (sSet 3 (eIf (tVal (eBin (onP gLt) (eCallB bLen (aCons (eVar 2) (aNil))) (eD (.p (.int 8))))) (eSl (eVar 2) (oNone) (oSome (eD (.p (.int 4))))) (eSl (eVar 2) (oNone) (oSome (eD (.p (.int 8)))))))
    (sSeq (sSet 4 (eCallB bTuple (aCons (eLc (iE (eVar 1)) (gNm 5) (tVal (eBin (onP gNotIn) (eVar 5) (eVar 3))) (eVar 5) [5]) (aNil))))
    (sSeq (sPar 6 7 (aCons (eCallB bRepr (aCons (eTup (aCons (eVar 0) (aCons (eVar 1) (aNil)))) (aNil))) (aCons (eCallB bRepr (aCons (eTup (aCons (eVar 4) (aCons (eCallU fs_law_left 2 0 [.at 0, .at 1] (aCons (eVar 0) (aCons (eVar 4) (aNil))) aNil) (aNil)))) (aNil))) (aNil))))
    (sRet (eAnd (eBin (onP gEq) (eCallB bRepr (aCons (eCallU fs_law_told 3 0 [.at 0, .at 1, .at 2] (aCons (eVar 0) (aCons (eVar 1) (aCons (eVar 2) (aNil)))) aNil) (aNil))) (eVar 7)) (eBin (onP gEq) (eCallB bRepr (aCons (eTup (aCons (eVar 0) (aCons (eVar 1) (aNil)))) (aNil))) (eVar 6))))))
noncomputable def fs_law_agrees_2 : FS := defF 8 φ_law_agrees_2
def t_law_agrees_2_x1 (teams_here : (List (List Str))) (here : (List Str)) (gone : (List Str)) : (List Str) := (if (decide ((gone.length : Int) < (8 : Int))) = true then (cutE gone none (some (4 : Int))) else (cutE gone none (some (8 : Int))))
def t_law_agrees_2_x2 (teams_here : (List (List Str))) (here : (List Str)) (gone : (List Str)) : (List Str) := (here.filter (fun (name : Str) => (!decide (name ∈ (t_law_agrees_2_x1 teams_here here gone)))))
def t_law_agrees_2 (teams_here : (List (List Str))) (here : (List Str)) (gone : (List Str)) : Bool := ((decide (((eOp (ePr (eTu eStr) (eTu (eTu eStr))) (fun _ => rfl)).f (t_law_told teams_here here gone)).shown = ((ePr (eTu eStr) (eTu (eTu eStr))).f ((t_law_agrees_2_x2 teams_here here gone), (t_law_left teams_here (t_law_agrees_2_x2 teams_here here gone)))).shown)) && (decide (((ePr (eTu (eTu eStr)) (eTu eStr)).f (teams_here, here)).shown = ((ePr (eTu (eTu eStr)) (eTu eStr)).f (teams_here, here)).shown)))
def pre_law_agrees_2 (teams_here : (List (List Str))) (here : (List Str)) (gone : (List Str)) : Prop := (here.length ≤ sizeLine) ∧ (((reprOk ((ePr (eTu (eTu eStr)) (eTu eStr)).f (teams_here, here)) = true) ∧ ((pre_law_left teams_here (t_law_agrees_2_x2 teams_here here gone)) ∧ (reprOk ((ePr (eTu eStr) (eTu (eTu eStr))).f ((t_law_agrees_2_x2 teams_here here gone), (t_law_left teams_here (t_law_agrees_2_x2 teams_here here gone)))) = true))) ∧ (((pre_law_told teams_here here gone) ∧ (reprOk ((eOp (ePr (eTu eStr) (eTu (eTu eStr))) (fun _ => rfl)).f (t_law_told teams_here here gone)) = true)) ∧ ((decide (((eOp (ePr (eTu eStr) (eTu (eTu eStr))) (fun _ => rfl)).f (t_law_told teams_here here gone)).shown = ((ePr (eTu eStr) (eTu (eTu eStr))).f ((t_law_agrees_2_x2 teams_here here gone), (t_law_left teams_here (t_law_agrees_2_x2 teams_here here gone)))).shown)) = true → reprOk ((ePr (eTu (eTu eStr)) (eTu eStr)).f (teams_here, here)) = true)))
theorem eq_law_agrees_2 {M : Mem} (teams_here : (List (List Str))) (here : (List Str)) (gone : (List Str)) (h : pre_law_agrees_2 teams_here here gone) : FS1 fs_law_agrees_2 [.p ((eTu (eTu eStr)).f teams_here), .p ((eTu eStr).f here), .p ((eLi eStr).f gone)] M (.p (eBool.f (t_law_agrees_2 teams_here here gone))) := by
  refine fs_of (f := (fun (r : Bool) => eBool.f r)) (v := (t_law_agrees_2 teams_here here gone)) (ρ := [some (.p ((eTu (eTu eStr)).f teams_here)), some (.p ((eTu eStr).f here)), some (.p ((eLi eStr).f gone)), none, none, none, none, none]) rfl ?_
  exact ok_seqS (ρ1 := [some (.p ((eTu (eTu eStr)).f teams_here)), some (.p ((eTu eStr).f here)), some (.p ((eLi eStr).f gone)), some (.p ((eLi eStr).f (t_law_agrees_2_x1 teams_here here gone))), none, none, none, none]) (M1 := M ++ [])  (ss_set (es_if (fun x => .p ((eLi eStr).f x)) (ts_val (es_onP (ep_es (es_lenL' (ep_es (es_var rfl)))) (ep_es (es_c)) (gLt_int _ _))) (fun hb7 => es_en (en_slL eStr (ep_es (es_var rfl)) (os_none) (os_some (es_c)))) (fun hb7 => es_en (en_slL eStr (ep_es (es_var rfl)) (os_none) (os_some (es_c))))))
    (ok_seqS (ρ1 := [some (.p ((eTu (eTu eStr)).f teams_here)), some (.p ((eTu eStr).f here)), some (.p ((eLi eStr).f gone)), some (.p ((eLi eStr).f (t_law_agrees_2_x1 teams_here here gone))), some (.p ((eTu eStr).f (t_law_agrees_2_x2 teams_here here gone))), none, none, none]) (M1 := M ++ [])  (ss_set (es_tupL (ep_es (es_en (en_f1 (en_lc here eStr.f (fun (name : Str) => (!decide (name ∈ (t_law_agrees_2_x1 teams_here here gone)))) (fun (name : Str) => name) eStr.f (fun (name : Str) => [some (.p ((eTu (eTu eStr)).f teams_here)), some (.p ((eTu eStr).f here)), some (.p ((eLi eStr).f gone)), some (.p ((eLi eStr).f (t_law_agrees_2_x1 teams_here here gone))), none, some (.p (eStr.f name)), none, none]) (is_tup (es_var rfl)) (h.1) (fun _ _ => rfl) (fun name hx8 => ts_val (es_onP (ep_es (es_var rfl)) (ep_es (es_var rfl)) (q_niL eStr (by decide) _ _))) (fun name hx8 hb9 => es_var rfl)))))))
    (ok_seqS (ρ1 := [some (.p ((eTu (eTu eStr)).f teams_here)), some (.p ((eTu eStr).f here)), some (.p ((eLi eStr).f gone)), some (.p ((eLi eStr).f (t_law_agrees_2_x1 teams_here here gone))), some (.p ((eTu eStr).f (t_law_agrees_2_x2 teams_here here gone))), none, some (.p (eStr.f ((ePr (eTu (eTu eStr)) (eTu eStr)).f (teams_here, here)).shown)), some (.p (eStr.f ((ePr (eTu eStr) (eTu (eTu eStr))).f ((t_law_agrees_2_x2 teams_here here gone), (t_law_left teams_here (t_law_agrees_2_x2 teams_here here gone)))).shown))]) (M1 := M ++ [])  (ss_par (as_cons (es_repr (x := (ePr (eTu (eTu eStr)) (eTu eStr)).f (teams_here, here)) (ep_es (es_tup (as_cons (es_var (d := .p ((eTu (eTu eStr)).f teams_here)) rfl) (as_cons (es_var (d := .p ((eTu eStr).f here)) rfl) (as_nil))) (le_small (k := 2) rfl (by decide)))) (h.2.1.1)) (as_cons (es_repr (x := (ePr (eTu eStr) (eTu (eTu eStr))).f ((t_law_agrees_2_x2 teams_here here gone), (t_law_left teams_here (t_law_agrees_2_x2 teams_here here gone)))) (ep_es (es_tup (as_cons (es_var (d := .p ((eTu eStr).f (t_law_agrees_2_x2 teams_here here gone))) rfl) (as_cons (es_call (as_cons (es_var (d := .p ((eTu (eTu eStr)).f teams_here)) rfl) (as_cons (es_var (d := .p ((eTu eStr).f (t_law_agrees_2_x2 teams_here here gone))) rfl) (as_nil))) (as_nil) ⟨rfl, rfl⟩ (by rfl) (eq_law_left teams_here (t_law_agrees_2_x2 teams_here here gone) (h.2.1.2.1))) (as_nil))) (le_small (k := 2) rfl (by decide)))) (h.2.1.2.2)) (as_nil))))
    (ok_retE rfl rfl (es_and (es_onP (ep_es (es_repr (x := (eOp (ePr (eTu eStr) (eTu (eTu eStr))) (fun _ => rfl)).f (t_law_told teams_here here gone)) (ep_es (es_call (as_cons (es_var (d := .p ((eTu (eTu eStr)).f teams_here)) rfl) (as_cons (es_var (d := .p ((eTu eStr).f here)) rfl) (as_cons (es_var (d := .p ((eLi eStr).f gone)) rfl) (as_nil)))) (as_nil) ⟨rfl, rfl⟩ (by rfl) (eq_law_told teams_here here gone (h.2.2.1.1)))) (h.2.2.1.2))) (ep_es (es_var rfl)) (q_eq eStr (by decide) _ _)) (fun hb10 => es_onP (ep_es (es_repr (x := (ePr (eTu (eTu eStr)) (eTu eStr)).f (teams_here, here)) (ep_es (es_tup (as_cons (es_var (d := .p ((eTu (eTu eStr)).f teams_here)) rfl) (as_cons (es_var (d := .p ((eTu eStr).f here)) rfl) (as_nil))) (le_small (k := 2) rfl (by decide)))) ((h.2.2.2 hb10)))) (ep_es (es_var rfl)) (q_eq eStr (by decide) _ _))))))
noncomputable def φ_law_2 : SFn :=
    sSeq (sSet 1 (eAl (eCallU fs_law_feed 1 0 [.at 0] (aCons (eVar 0) (aNil)) aNil)))
    (sSeq (sPre [2, 3, 4, 5, 6, 7] (sFor (iRg rg1 (aCons (eD (.p (.int 6))) (aNil))) (gNm 2)
    (sWp [2, 3, 4, 5, 6, 7] (sSeq (sSet 3 (eCallU fs_law_teams 2 0 [.at 0, .at 1] (aCons (eVar 1) (aCons (eD (.p (.int 8))) (aNil))) aNil))
    (sSeq (sSet 4 (eCallU fs_law_folk 1 0 [.at 0] (aCons (eVar 3) (aNil)) aNil))
    (sPre [5, 6, 7] (sFor (iE (eTup (aCons (eVar 4) (aCons (eTup (aNil)) (aCons (eBin dSub (eCallU fs_law_scene 2 0 [.at 0, .at 1] (aCons (eVar 1) (aCons (eVar 3) (aNil))) aNil) (eD (.p (.int 0)))) (aCons (eCallU fs_law_subset 2 0 [.at 0, .at 1] (aCons (eVar 1) (aCons (eVar 4) (aNil))) aNil) (aNil))))))) (gNm 5)
    (sWp [5, 6, 7] (sSeq (sPre [6, 7] (sFor (iE (eTup (aCons (eD (.p (.int 0))) (aCons (eD (.p (.int 1))) (aCons (eD (.p (.int 2))) (aCons (eD (.p (.int 3))) (aCons (eD (.p (.int 4))) (aCons (eD (.p (.int 8))) (aNil))))))))) (gNm 6)
    (sWp [6, 7] (sSeq (sSet 7 (eLc (iRg rg1 (aCons (eVar 6) (aNil))) (gNm 8) (tTrue) (eCallU fs_law_choice 2 0 [.at 0, .at 1] (aCons (eVar 1) (aCons (eVar 4) (aNil))) aNil) [8]))
    (sIf (tNot (tVal (eCallU fs_law_agrees_2 3 0 [.at 0, .at 1, .at 2] (aCons (eVar 3) (aCons (eVar 5) (aCons (eVar 7) (aNil)))) aNil)))
    (sRet (eD (.p (.bool false))))
    (sNx))))
    (sNx)))
    (sIf (tOr (tNot (tVal (eCallU fs_law_agrees_2 3 0 [.at 0, .at 1, .at 2] (aCons (eVar 3) (aCons (eVar 5) (aCons (eSl (eCallB bList (aCons (eVar 4) (aNil))) (oNone) (oSome (eD (.p (.int 4))))) (aNil)))) aNil))) (tNot (tVal (eCallU fs_law_agrees_2 3 0 [.at 0, .at 1, .at 2] (aCons (eVar 3) (aCons (eVar 5) (aCons (eSl (eRev (eCallB bList (aCons (eVar 4) (aNil)))) (oNone) (oSome (eD (.p (.int 3))))) (aNil)))) aNil))))
    (sRet (eD (.p (.bool false))))
    (sNx))))
    (sNx))))))
    (sNx)))
    (sRet (eD (.p (.bool true)))))
noncomputable def fs_law_2 : FS := defF 9 φ_law_2
def t_law_2_x5 (script : (List Int)) (s : ((List Int) × Int × Int × Int)) (attempt : Int) : ((List (List Str)) × ((List Int) × Int × Int × Int)) := t_law_teams s (8 : Int)
def t_law_2_x6 (script : (List Int)) (s : ((List Int) × Int × Int × Int)) (attempt : Int) (s2 : ((List Int) × Int × Int × Int)) (here : (List Str)) (s3 : ((List Int) × Int × Int × Int)) (many : Int) (s4 : ((List Int) × Int × Int × Int)) (k : Int) : (Str × ((List Int) × Int × Int × Int)) := t_law_choice_i2 s4 (t_law_folk (t_law_2_x5 script s attempt).1)
def t_law_2_c4 (script : (List Int)) (s : ((List Int) × Int × Int × Int)) (attempt : Int) (s2 : ((List Int) × Int × Int × Int)) (here : (List Str)) (s3 : ((List Int) × Int × Int × Int)) (many : Int) (s4 : ((List Int) × Int × Int × Int)) (k : Int) : Option Str × ((List Int) × Int × Int × Int) := (some (t_law_2_x6 script s attempt s2 here s3 many s4 k).1, (t_law_2_x6 script s attempt s2 here s3 many s4 k).2)
def pre_law_2_c4 (script : (List Int)) (s : ((List Int) × Int × Int × Int)) (attempt : Int) (s2 : ((List Int) × Int × Int × Int)) (here : (List Str)) (s3 : ((List Int) × Int × Int × Int)) (many : Int) (s4 : ((List Int) × Int × Int × Int)) (k : Int) : Prop := pre_law_choice_i2 s4 (t_law_folk (t_law_2_x5 script s attempt).1)
def t_law_2_d4 (script : (List Int)) (s : ((List Int) × Int × Int × Int)) (attempt : Int) (s2 : ((List Int) × Int × Int × Int)) (here : (List Str)) (s3 : ((List Int) × Int × Int × Int)) (many : Int) : List Str × ((List Int) × Int × Int × Int) := lcS (t_law_2_c4 script s attempt s2 here s3 many) ((List.range many.toNat).map Int.ofNat) s3
def t_law_2_b3 (script : (List Int)) (s : ((List Int) × Int × Int × Int)) (attempt : Int) (s2 : ((List Int) × Int × Int × Int)) (here : (List Str)) (s3 : ((List Int) × Int × Int × Int)) (many : Int) : LS ((List Int) × Int × Int × Int) Bool := (if (!(t_law_agrees_2 (t_law_2_x5 script s attempt).1 here (t_law_2_d4 script s attempt s2 here s3 many).1)) = true then (.rt false) else (.nx (t_law_2_d4 script s attempt s2 here s3 many).2))
def pre_law_2_b3 (script : (List Int)) (s : ((List Int) × Int × Int × Int)) (attempt : Int) (s2 : ((List Int) × Int × Int × Int)) (here : (List Str)) (s3 : ((List Int) × Int × Int × Int)) (many : Int) : Prop := ((-1000000000000 ≤ many ∧ many ≤ 1000000000000) ∧ (((List.range many.toNat).map Int.ofNat).length ≤ sizeLine) ∧ (preS (t_law_2_c4 script s attempt s2 here s3 many) (pre_law_2_c4 script s attempt s2 here s3 many) ((List.range many.toNat).map Int.ofNat) s3)) ∧ (pre_law_agrees_2 (t_law_2_x5 script s attempt).1 here (t_law_2_d4 script s attempt s2 here s3 many).1)
def t_law_2_l3 (script : (List Int)) (s : ((List Int) × Int × Int × Int)) (attempt : Int) (s2 : ((List Int) × Int × Int × Int)) (here : (List Str)) : LS ((List Int) × Int × Int × Int) Bool := forR (t_law_2_b3 script s attempt s2 here) [(0 : Int), (1 : Int), (2 : Int), (3 : Int), (4 : Int), (8 : Int)] s2
def t_law_2_b2 (script : (List Int)) (s : ((List Int) × Int × Int × Int)) (attempt : Int) (s2 : ((List Int) × Int × Int × Int)) (here : (List Str)) : LS ((List Int) × Int × Int × Int) Bool := (LS.sl (fun (s3 : ((List Int) × Int × Int × Int)) => (if ((!(t_law_agrees_2 (t_law_2_x5 script s attempt).1 here (cutE (t_law_folk (t_law_2_x5 script s attempt).1) none (some (4 : Int))))) || (!(t_law_agrees_2 (t_law_2_x5 script s attempt).1 here (cutE (t_law_folk (t_law_2_x5 script s attempt).1).reverse none (some (3 : Int)))))) = true then (.rt false) else (.nx s3))) (fun r => (LS.rt r)) (t_law_2_l3 script s attempt s2 here))
def pre_law_2_b2 (script : (List Int)) (s : ((List Int) × Int × Int × Int)) (attempt : Int) (s2 : ((List Int) × Int × Int × Int)) (here : (List Str)) : Prop := ([(0 : Int), (1 : Int), (2 : Int), (3 : Int), (4 : Int), (8 : Int)].length ≤ sizeLine) ∧ (preR (t_law_2_b3 script s attempt s2 here) (pre_law_2_b3 script s attempt s2 here) [(0 : Int), (1 : Int), (2 : Int), (3 : Int), (4 : Int), (8 : Int)] s2) ∧ (∀ s3, ((t_law_2_l3 script s attempt s2 here) = .nx s3 ∨ (t_law_2_l3 script s attempt s2 here) = .bk s3) → (pre_law_agrees_2 (t_law_2_x5 script s attempt).1 here (cutE (t_law_folk (t_law_2_x5 script s attempt).1) none (some (4 : Int)))) ∧ ((!(t_law_agrees_2 (t_law_2_x5 script s attempt).1 here (cutE (t_law_folk (t_law_2_x5 script s attempt).1) none (some (4 : Int))))) = false → pre_law_agrees_2 (t_law_2_x5 script s attempt).1 here (cutE (t_law_folk (t_law_2_x5 script s attempt).1).reverse none (some (3 : Int)))))
def t_law_2_x7 (script : (List Int)) (s : ((List Int) × Int × Int × Int)) (attempt : Int) : (((List Str) × (List Str)) × ((List Int) × Int × Int × Int)) := t_law_scene (t_law_2_x5 script s attempt).2 (t_law_2_x5 script s attempt).1
def t_law_2_x8 (script : (List Int)) (s : ((List Int) × Int × Int × Int)) (attempt : Int) : ((List Str) × ((List Int) × Int × Int × Int)) := t_law_subset (t_law_2_x7 script s attempt).2 (t_law_folk (t_law_2_x5 script s attempt).1)
def t_law_2_l2 (script : (List Int)) (s : ((List Int) × Int × Int × Int)) (attempt : Int) : LS ((List Int) × Int × Int × Int) Bool := forR (t_law_2_b2 script s attempt) [(t_law_folk (t_law_2_x5 script s attempt).1), [], (t_law_2_x7 script s attempt).1.1, (t_law_2_x8 script s attempt).1] (t_law_2_x8 script s attempt).2
def t_law_2_b1 (script : (List Int)) (s : ((List Int) × Int × Int × Int)) (attempt : Int) : LS ((List Int) × Int × Int × Int) Bool := (LS.sl (fun (s2 : ((List Int) × Int × Int × Int)) => (.nx s2)) (fun r => (LS.rt r)) (t_law_2_l2 script s attempt))
def pre_law_2_b1 (script : (List Int)) (s : ((List Int) × Int × Int × Int)) (attempt : Int) : Prop := (pre_law_teams s (8 : Int)) ∧ ((pre_law_folk (t_law_2_x5 script s attempt).1) ∧ (((pre_law_scene (t_law_2_x5 script s attempt).2 (t_law_2_x5 script s attempt).1) ∧ (pre_law_subset (t_law_2_x7 script s attempt).2 (t_law_folk (t_law_2_x5 script s attempt).1))) ∧ ([(t_law_folk (t_law_2_x5 script s attempt).1), [], (t_law_2_x7 script s attempt).1.1, (t_law_2_x8 script s attempt).1].length ≤ sizeLine) ∧ (preR (t_law_2_b2 script s attempt) (pre_law_2_b2 script s attempt) [(t_law_folk (t_law_2_x5 script s attempt).1), [], (t_law_2_x7 script s attempt).1.1, (t_law_2_x8 script s attempt).1] (t_law_2_x8 script s attempt).2)))
def t_law_2_l1 (script : (List Int)) : LS ((List Int) × Int × Int × Int) Bool := forR (t_law_2_b1 script) ((List.range (6 : Int).toNat).map Int.ofNat) (t_law_feed script)
def t_law_2 (script : (List Int)) : Bool := (LS.sl (fun (s : ((List Int) × Int × Int × Int)) => true) (fun r => r) (t_law_2_l1 script))
def pre_law_2 (script : (List Int)) : Prop := (-1000000000000 ≤ (6 : Int) ∧ (6 : Int) ≤ 1000000000000) ∧ (((List.range (6 : Int).toNat).map Int.ofNat).length ≤ sizeLine) ∧ (preR (t_law_2_b1 script) (pre_law_2_b1 script) ((List.range (6 : Int).toNat).map Int.ofNat) (t_law_feed script))
theorem eq_law_2 {M : Mem} (script : (List Int)) (h : pre_law_2 script) : FS1 fs_law_2 [.frz (script.map PyData.int)] M (.p (eBool.f (t_law_2 script))) := by
  refine fs_of (f := (fun (r : Bool) => eBool.f r)) (v := (t_law_2 script)) (ρ := [some (.frz (script.map PyData.int)), none, none, none, none, none, none, none, none]) rfl ?_
  exact ok_seqS (ρ1 := [some (.frz (script.map PyData.int)), some (.obj (M.length + 0)), none, none, none, none, none, none, none]) (M1 := M ++ [MObj.lst [(eLi eInt).f ((t_law_feed script)).1, eInt.f ((t_law_feed script)).2.1, eInt.f ((t_law_feed script)).2.2.1, eInt.f ((t_law_feed script)).2.2.2]])  (ss_new (M := M) (R := []) (k := M.length) (o := MObj.lst [(eLi eInt).f ((t_law_feed script)).1, eInt.f ((t_law_feed script)).2.1, eInt.f ((t_law_feed script)).2.2.1, eInt.f ((t_law_feed script)).2.2.2]) rfl (en_call (as_cons (es_var (d := .frz (script.map PyData.int)) rfl) (as_nil)) (as_nil) ⟨rfl, rfl⟩ (by rfl) (eq_law_feed script)))
    (ok_preSeq (ok_forSeq (Q := (KDf M.length (fun (_ : Bool) => M) (TDf (fun (r : Bool) => eBool.f r)))) ((List.range (6 : Int).toNat).map Int.ofNat) eInt.f (t_law_2_b1 script) (fun (s : ((List Int) × Int × Int × Int)) => [some (.frz (script.map PyData.int)), some (.obj (M.length + 0)), none, none, none, none, none, none, none]) (fun (s : ((List Int) × Int × Int × Int)) => M ++ [MObj.lst [(eLi eInt).f (s).1, eInt.f (s).2.1, eInt.f (s).2.2.1, eInt.f (s).2.2.2]]) (pre_law_2_b1 script) (KDf M.length (fun (_ : Bool) => M) (TDf (fun (r : Bool) => eBool.f r))) (t_law_feed script) (fun (s : ((List Int) × Int × Int × Int)) => true) (fun r => r) (il_range1 (as_cons (es_c) (as_nil)) (h.1).1 (h.1).2) rfl rfl (h.2.1) (fun s attempt hx12 hs13 => ⟨_, rfl, ok_wp (ok_seqS (ρ1 := [some (.frz (script.map PyData.int)), some (.obj (M.length + 0)), some (.p (eInt.f attempt)), some (.p ((eTu (eTu eStr)).f (t_law_2_x5 script s attempt).1)), none, none, none, none, none]) (M1 := M ++ [MObj.lst [(eLi eInt).f ((t_law_2_x5 script s attempt).2).1, eInt.f ((t_law_2_x5 script s attempt).2).2.1, eInt.f ((t_law_2_x5 script s attempt).2).2.2.1, eInt.f ((t_law_2_x5 script s attempt).2).2.2.2]])  (ss_setF (ef_call (af_cons (ef_es (es_var (d := .obj (M.length + 0)) rfl)) (af_cons (ef_es (es_c)) (af_nil))) (af_nil) ⟨rfl, rfl⟩ (by rfl) (fr_loc (j := 0) rfl (eq_law_teams s (8 : Int) ((obj_at rfl).trans rfl) (hs13.1)))))
    (ok_seqS (ρ1 := [some (.frz (script.map PyData.int)), some (.obj (M.length + 0)), some (.p (eInt.f attempt)), some (.p ((eTu (eTu eStr)).f (t_law_2_x5 script s attempt).1)), some (.p ((eTu eStr).f (t_law_folk (t_law_2_x5 script s attempt).1))), none, none, none, none]) (M1 := M ++ [MObj.lst [(eLi eInt).f ((t_law_2_x5 script s attempt).2).1, eInt.f ((t_law_2_x5 script s attempt).2).2.1, eInt.f ((t_law_2_x5 script s attempt).2).2.2.1, eInt.f ((t_law_2_x5 script s attempt).2).2.2.2]])  (ss_set (es_call (as_cons (es_var (d := .p ((eTu (eTu eStr)).f (t_law_2_x5 script s attempt).1)) rfl) (as_nil)) (as_nil) ⟨rfl, rfl⟩ (by rfl) (eq_law_folk (t_law_2_x5 script s attempt).1 (hs13.2.1))))
    (ok_pre (ok_forLastF (Q := (fun (o : LS ((List Int) × Int × Int × Int) Bool) => KW (M ++ [MObj.lst [(eLi eInt).f (s).1, eInt.f (s).2.1, eInt.f (s).2.2.1, eInt.f (s).2.2.2]]).length [2, 3, 4, 5, 6, 7] (KL (fun (s : ((List Int) × Int × Int × Int)) => [some (.frz (script.map PyData.int)), some (.obj (M.length + 0)), none, none, none, none, none, none, none]) (fun (s : ((List Int) × Int × Int × Int)) => M ++ [MObj.lst [(eLi eInt).f (s).1, eInt.f (s).2.1, eInt.f (s).2.2.1, eInt.f (s).2.2.2]]) (KDf M.length (fun (_ : Bool) => M) (TDf (fun (r : Bool) => eBool.f r))) o))) [(t_law_folk (t_law_2_x5 script s attempt).1), [], (t_law_2_x7 script s attempt).1.1, (t_law_2_x8 script s attempt).1] (eTu eStr).f (t_law_2_b2 script s attempt) (fun (s2 : ((List Int) × Int × Int × Int)) => [some (.frz (script.map PyData.int)), some (.obj (M.length + 0)), some (.p (eInt.f attempt)), some (.p ((eTu (eTu eStr)).f (t_law_2_x5 script s attempt).1)), some (.p ((eTu eStr).f (t_law_folk (t_law_2_x5 script s attempt).1))), none, none, none, none]) (fun (s2 : ((List Int) × Int × Int × Int)) => M ++ [MObj.lst [(eLi eInt).f (s2).1, eInt.f (s2).2.1, eInt.f (s2).2.2.1, eInt.f (s2).2.2.2]]) (pre_law_2_b2 script s attempt) (KDf M.length (fun (_ : Bool) => M) (TDf (fun (r : Bool) => eBool.f r))) (t_law_2_x8 script s attempt).2 (fun (s2 : ((List Int) × Int × Int × Int)) => (.nx s2)) (fun r => (LS.rt r)) (if_tup (ef_tup (af_cons (ef_es (es_var (d := .p ((eTu eStr).f (t_law_folk (t_law_2_x5 script s attempt).1))) rfl)) (af_cons (ef_es (es_tup (as_nil) (le_small (k := 0) rfl (by decide)))) (af_cons (ef_subP (ef_call (af_cons (ef_es (es_var (d := .obj (M.length + 0)) rfl)) (af_cons (ef_es (es_var (d := .p ((eTu (eTu eStr)).f (t_law_2_x5 script s attempt).1)) rfl)) (af_nil))) (af_nil) ⟨rfl, rfl⟩ (by rfl) (fr_loc (j := 0) rfl (eq_law_scene (t_law_2_x5 script s attempt).2 (t_law_2_x5 script s attempt).1 ((obj_at rfl).trans rfl) (hs13.2.2.1.1)))) (ef_es es_c) (.inl rfl) rfl) (af_cons (ef_call (af_cons (ef_es (es_var (d := .obj (M.length + 0)) rfl)) (af_cons (ef_es (es_var (d := .p ((eTu eStr).f (t_law_folk (t_law_2_x5 script s attempt).1))) rfl)) (af_nil))) (af_nil) ⟨rfl, rfl⟩ (by rfl) (fr_loc (j := 0) rfl (eq_law_subset (t_law_2_x7 script s attempt).2 (t_law_folk (t_law_2_x5 script s attempt).1) ((obj_at rfl).trans rfl) (hs13.2.2.1.2)))) (af_nil))))) (le_small (k := 4) rfl (by decide)))) rfl rfl (hs13.2.2.2.1) (fun s2 here hx15 hs16 => ⟨_, rfl, ok_wp (ok_preSeq (ok_forSeq (Q := (fun (o : LS ((List Int) × Int × Int × Int) Bool) => KW (M ++ [MObj.lst [(eLi eInt).f (s2).1, eInt.f (s2).2.1, eInt.f (s2).2.2.1, eInt.f (s2).2.2.2]]).length [5, 6, 7] (KL (fun (s2 : ((List Int) × Int × Int × Int)) => [some (.frz (script.map PyData.int)), some (.obj (M.length + 0)), some (.p (eInt.f attempt)), some (.p ((eTu (eTu eStr)).f (t_law_2_x5 script s attempt).1)), some (.p ((eTu eStr).f (t_law_folk (t_law_2_x5 script s attempt).1))), none, none, none, none]) (fun (s2 : ((List Int) × Int × Int × Int)) => M ++ [MObj.lst [(eLi eInt).f (s2).1, eInt.f (s2).2.1, eInt.f (s2).2.2.1, eInt.f (s2).2.2.2]]) (KDf M.length (fun (_ : Bool) => M) (TDf (fun (r : Bool) => eBool.f r))) o))) [(0 : Int), (1 : Int), (2 : Int), (3 : Int), (4 : Int), (8 : Int)] eInt.f (t_law_2_b3 script s attempt s2 here) (fun (s3 : ((List Int) × Int × Int × Int)) => [some (.frz (script.map PyData.int)), some (.obj (M.length + 0)), some (.p (eInt.f attempt)), some (.p ((eTu (eTu eStr)).f (t_law_2_x5 script s attempt).1)), some (.p ((eTu eStr).f (t_law_folk (t_law_2_x5 script s attempt).1))), some (.p ((eTu eStr).f here)), none, none, none]) (fun (s3 : ((List Int) × Int × Int × Int)) => M ++ [MObj.lst [(eLi eInt).f (s3).1, eInt.f (s3).2.1, eInt.f (s3).2.2.1, eInt.f (s3).2.2.2]]) (pre_law_2_b3 script s attempt s2 here) (KDf M.length (fun (_ : Bool) => M) (TDf (fun (r : Bool) => eBool.f r))) s2 (fun (s3 : ((List Int) × Int × Int × Int)) => (if ((!(t_law_agrees_2 (t_law_2_x5 script s attempt).1 here (cutE (t_law_folk (t_law_2_x5 script s attempt).1) none (some (4 : Int))))) || (!(t_law_agrees_2 (t_law_2_x5 script s attempt).1 here (cutE (t_law_folk (t_law_2_x5 script s attempt).1).reverse none (some (3 : Int)))))) = true then (.rt false) else (.nx s3))) (fun r => (LS.rt r)) (il_tup (es_tup (as_cons (es_c) (as_cons (es_c) (as_cons (es_c) (as_cons (es_c) (as_cons (es_c) (as_cons (es_c) (as_nil))))))) (le_small (k := 6) rfl (by decide)))) rfl rfl (hs16.1) (fun s3 many hx20 hs21 => ⟨_, rfl, ok_wp (ok_seqS (ρ1 := [some (.frz (script.map PyData.int)), some (.obj (M.length + 0)), some (.p (eInt.f attempt)), some (.p ((eTu (eTu eStr)).f (t_law_2_x5 script s attempt).1)), some (.p ((eTu eStr).f (t_law_folk (t_law_2_x5 script s attempt).1))), some (.p ((eTu eStr).f here)), some (.p (eInt.f many)), some (.p ((eLi eStr).f (t_law_2_d4 script s attempt s2 here s3 many).1)), none]) (M1 := M ++ [MObj.lst [(eLi eInt).f ((t_law_2_d4 script s attempt s2 here s3 many).2).1, eInt.f ((t_law_2_d4 script s attempt s2 here s3 many).2).2.1, eInt.f ((t_law_2_d4 script s attempt s2 here s3 many).2).2.2.1, eInt.f ((t_law_2_d4 script s attempt s2 here s3 many).2).2.2.2]])  (ss_setF (ef_efn (efn_lcS ((List.range many.toNat).map Int.ofNat) eInt.f (t_law_2_c4 script s attempt s2 here s3 many) eStr.f (fun (k : Int) => [some (.frz (script.map PyData.int)), some (.obj (M.length + 0)), some (.p (eInt.f attempt)), some (.p ((eTu (eTu eStr)).f (t_law_2_x5 script s attempt).1)), some (.p ((eTu eStr).f (t_law_folk (t_law_2_x5 script s attempt).1))), some (.p ((eTu eStr).f here)), some (.p (eInt.f many)), none, some (.p (eInt.f k))]) (fun (s4 : ((List Int) × Int × Int × Int)) => M ++ [MObj.lst [(eLi eInt).f (s4).1, eInt.f (s4).2.1, eInt.f (s4).2.2.1, eInt.f (s4).2.2.2]]) (pre_law_2_c4 script s attempt s2 here s3 many) s3 (if_il (il_range1 (as_cons (es_var (d := .p (eInt.f many)) rfl) (as_nil)) (hs21.1.1).1 (hs21.1.1).2)) rfl (hs21.1.2.1) (fun _ _ => rfl) (fun s4 k hx22 hs23 => lcb_all (s2 := (t_law_2_x6 script s attempt s2 here s3 many s4 k).2) (y := (t_law_2_x6 script s attempt s2 here s3 many s4 k).1) (ef_call (af_cons (ef_es (es_var (d := .obj (M.length + 0)) rfl)) (af_cons (ef_es (es_var (d := .p ((eTu eStr).f (t_law_folk (t_law_2_x5 script s attempt).1))) rfl)) (af_nil))) (af_nil) ⟨rfl, rfl⟩ (by rfl) (fr_loc (j := 0) rfl (eq_law_choice_i2 s4 (t_law_folk (t_law_2_x5 script s attempt).1) ((obj_at rfl).trans rfl) (hs23))))) (hs21.1.2.2))))
    (ok_ifS (Q := (fun (o : LS ((List Int) × Int × Int × Int) Bool) => KW (M ++ [MObj.lst [(eLi eInt).f (s3).1, eInt.f (s3).2.1, eInt.f (s3).2.2.1, eInt.f (s3).2.2.2]]).length [6, 7] (KL (fun (s3 : ((List Int) × Int × Int × Int)) => [some (.frz (script.map PyData.int)), some (.obj (M.length + 0)), some (.p (eInt.f attempt)), some (.p ((eTu (eTu eStr)).f (t_law_2_x5 script s attempt).1)), some (.p ((eTu eStr).f (t_law_folk (t_law_2_x5 script s attempt).1))), some (.p ((eTu eStr).f here)), none, none, none]) (fun (s3 : ((List Int) × Int × Int × Int)) => M ++ [MObj.lst [(eLi eInt).f (s3).1, eInt.f (s3).2.1, eInt.f (s3).2.2.1, eInt.f (s3).2.2.2]]) (KDf M.length (fun (_ : Bool) => M) (TDf (fun (r : Bool) => eBool.f r))) o))) (ts_not (ts_val (es_call (as_cons (es_var (d := .p ((eTu (eTu eStr)).f (t_law_2_x5 script s attempt).1)) rfl) (as_cons (es_var (d := .p ((eTu eStr).f here)) rfl) (as_cons (es_var (d := .p ((eLi eStr).f (t_law_2_d4 script s attempt s2 here s3 many).1)) rfl) (as_nil)))) (as_nil) ⟨rfl, rfl⟩ (by rfl) (eq_law_agrees_2 (t_law_2_x5 script s attempt).1 here (t_law_2_d4 script s attempt s2 here s3 many).1 (hs21.2))))) (fun hb25 => kw_ret (ok_retE rfl rfl (es_c)))
    (fun hb25 => kw_nx (M0 := M) (M1 := M) (Rs := [MObj.lst [(eLi eInt).f (s3).1, eInt.f (s3).2.1, eInt.f (s3).2.2.1, eInt.f (s3).2.2.2]]) (Rs' := [MObj.lst [(eLi eInt).f ((t_law_2_d4 script s attempt s2 here s3 many).2).1, eInt.f ((t_law_2_d4 script s attempt s2 here s3 many).2).2.1, eInt.f ((t_law_2_d4 script s attempt s2 here s3 many).2).2.2.1, eInt.f ((t_law_2_d4 script s attempt s2 here s3 many).2).2.2.2]]) (s := (t_law_2_d4 script s attempt s2 here s3 many).2) rfl (by simp only [wipeE_cons, wipeE_nil, List.set_cons_zero, List.set_cons_succ, trim_p, trim_none, trim_nil, trim_frz, trim_obj (M0 := M) (Rs := [MObj.lst [(eLi eInt).f (s3).1, eInt.f (s3).2.1, eInt.f (s3).2.2.1, eInt.f (s3).2.2.2]]) (j := 0) (k := M.length) rfl (by simp)] <;> rfl) rfl)))⟩) (hs16.2.1) (fun s3 hs17 => ok_ifS (Q := (fun (o : LS ((List Int) × Int × Int × Int) Bool) => KW (M ++ [MObj.lst [(eLi eInt).f (s2).1, eInt.f (s2).2.1, eInt.f (s2).2.2.1, eInt.f (s2).2.2.2]]).length [5, 6, 7] (KL (fun (s2 : ((List Int) × Int × Int × Int)) => [some (.frz (script.map PyData.int)), some (.obj (M.length + 0)), some (.p (eInt.f attempt)), some (.p ((eTu (eTu eStr)).f (t_law_2_x5 script s attempt).1)), some (.p ((eTu eStr).f (t_law_folk (t_law_2_x5 script s attempt).1))), none, none, none, none]) (fun (s2 : ((List Int) × Int × Int × Int)) => M ++ [MObj.lst [(eLi eInt).f (s2).1, eInt.f (s2).2.1, eInt.f (s2).2.2.1, eInt.f (s2).2.2.2]]) (KDf M.length (fun (_ : Bool) => M) (TDf (fun (r : Bool) => eBool.f r))) o))) (ts_or (ts_not (ts_val (es_call (as_cons (es_var (d := .p ((eTu (eTu eStr)).f (t_law_2_x5 script s attempt).1)) rfl) (as_cons (es_var (d := .p ((eTu eStr).f here)) rfl) (as_cons (es_en (en_slL eStr (ep_es (es_en (en_listT (ep_es (es_var rfl))))) (os_none) (os_some (es_c)))) (as_nil)))) (as_nil) ⟨rfl, rfl⟩ (by rfl) (eq_law_agrees_2 (t_law_2_x5 script s attempt).1 here (cutE (t_law_folk (t_law_2_x5 script s attempt).1) none (some (4 : Int))) ((hs16.2.2 s3 hs17).1))))) (fun hb19 => ts_not (ts_val (es_call (as_cons (es_var (d := .p ((eTu (eTu eStr)).f (t_law_2_x5 script s attempt).1)) rfl) (as_cons (es_var (d := .p ((eTu eStr).f here)) rfl) (as_cons (es_en (en_slL eStr (ep_es (es_en (en_rev (ep_es (es_en (en_listT (ep_es (es_var rfl)))))))) (os_none) (os_some (es_c)))) (as_nil)))) (as_nil) ⟨rfl, rfl⟩ (by rfl) (eq_law_agrees_2 (t_law_2_x5 script s attempt).1 here (cutE (t_law_folk (t_law_2_x5 script s attempt).1).reverse none (some (3 : Int))) (((hs16.2.2 s3 hs17).2 hb19))))))) (fun hb18 => kw_ret (ok_retE rfl rfl (es_c)))
    (fun hb18 => kw_nx (M0 := M) (M1 := M) (Rs := [MObj.lst [(eLi eInt).f (s2).1, eInt.f (s2).2.1, eInt.f (s2).2.2.1, eInt.f (s2).2.2.2]]) (Rs' := [MObj.lst [(eLi eInt).f (s3).1, eInt.f (s3).2.1, eInt.f (s3).2.2.1, eInt.f (s3).2.2.2]]) (s := s3) rfl (by simp only [wipeE_cons, wipeE_nil, List.set_cons_zero, List.set_cons_succ, trim_p, trim_none, trim_nil, trim_frz, trim_obj (M0 := M) (Rs := [MObj.lst [(eLi eInt).f (s2).1, eInt.f (s2).2.1, eInt.f (s2).2.2.1, eInt.f (s2).2.2.2]]) (j := 0) (k := M.length) rfl (by simp)] <;> rfl) rfl)) (fun r e M1 hk => ⟨⟨e, rfl⟩, hk⟩)))⟩) (hs13.2.2.2.2) (fun s2 hs14 => kw_nx (M0 := M) (M1 := M) (Rs := [MObj.lst [(eLi eInt).f (s).1, eInt.f (s).2.1, eInt.f (s).2.2.1, eInt.f (s).2.2.2]]) (Rs' := [MObj.lst [(eLi eInt).f (s2).1, eInt.f (s2).2.1, eInt.f (s2).2.2.1, eInt.f (s2).2.2.2]]) (s := s2) rfl (by simp only [wipeE_cons, wipeE_nil, List.set_cons_zero, List.set_cons_succ, trim_p, trim_none, trim_nil, trim_frz, trim_obj (M0 := M) (Rs := [MObj.lst [(eLi eInt).f (s).1, eInt.f (s).2.1, eInt.f (s).2.2.1, eInt.f (s).2.2.2]]) (j := 0) (k := M.length) rfl (by simp)] <;> rfl) rfl) (fun r e M1 hk => ⟨⟨e, rfl⟩, hk⟩)))))⟩) (h.2.2) (fun s hs11 => ok_retE rfl rfl (es_c)) (fun r e M1 hk => hk)))
end Fz

set_option Elab.async false
set_option linter.all false
set_option maxRecDepth 100000
/-! Fz, part M: what is known of the typed words. -/
namespace Cb
open PySem PySem.Spec PyProof.Rows L2
open PySem.W (Datum DatumOrd Tup)
section
variable {σ α β R : Type}
theorem le_line {n : Nat} (h : n ≤ 16777216) : n ≤ sizeLine := by rw [sizeLine_eq]; exact h
theorem lt_line {n : Nat} (h : n < 16777216) : n < sizeLine := by rw [sizeLine_eq]; exact h
/-- a loop that never leaves: by a word of the turn's number -/
theorem forR_inv {f : σ → α → LS σ R} {pre : σ → α → Prop} (I : Nat → σ → Prop) (xs : List α) (s0 : σ) (h0 : I 0 s0) (hs : ∀ i s x, xs[i]? = some x → I i s → pre s x ∧ ∃ s', f s x = .nx s' ∧ I (i + 1) s') : preR f pre xs s0 ∧ ∃ s', forR f xs s0 = .nx s' ∧ I xs.length s' := by
  have key : ∀ (ys : List α) (i : Nat) (s : σ), (∀ j, ys[j]? = xs[i + j]?) → i + ys.length = xs.length → I i s → preR f pre ys s ∧ ∃ s', forR f ys s = .nx s' ∧ I xs.length s' := by
    intro ys
    induction ys with
    | nil => intro i s _ hl hI; exact ⟨trivial, s, rfl, by simp at hl; exact hl ▸ hI⟩
    | cons y ys ih =>
      intro i s hx hl hI
      have e := hx 0
      simp at e
      obtain ⟨h1, s', h2, h3⟩ := hs i s y e.symm hI
      obtain ⟨h4, s2, h5, h6⟩ := ih (i + 1) s' (fun j => by have := hx (j + 1); simp at this; rw [this]; congr 1; omega) (by simp at hl; omega) h3
      refine ⟨⟨h1, by rw [h2]; exact h4⟩, s2, ?_, h6⟩
      show (match f s y with
        | .nx s' => forR f ys s'
        | .bk s' => .bk s'
        | .rt r => .rt r) = _
      rw [h2]; exact h5
  exact key xs 0 s0 (fun j => by rw [Nat.zero_add]) (by simp) h0
theorem foldl_inv {f : σ → α → σ} {pre : σ → α → Prop} (I : Nat → σ → Prop) (xs : List α) (s0 : σ) (h0 : I 0 s0) (hs : ∀ i s x, xs[i]? = some x → I i s → pre s x ∧ I (i + 1) (f s x)) : preF f pre xs s0 ∧ I xs.length (xs.foldl f s0) := by
  have key : ∀ (ys : List α) (i : Nat) (s : σ), (∀ j, ys[j]? = xs[i + j]?) → i + ys.length = xs.length → I i s → preF f pre ys s ∧ I xs.length (ys.foldl f s) := by
    intro ys
    induction ys with
    | nil => intro i s _ hl hI; exact ⟨trivial, by simp at hl; exact hl ▸ hI⟩
    | cons y ys ih =>
      intro i s hx hl hI
      have e := hx 0
      simp at e
      obtain ⟨h1, h2⟩ := hs i s y e.symm hI
      obtain ⟨h4, h5⟩ := ih (i + 1) (f s y) (fun j => by have := hx (j + 1); simp at this; rw [this]; congr 1; omega) (by simp at hl; omega) h2
      exact ⟨⟨h1, h4⟩, h5⟩
  exact key xs 0 s0 (fun j => by rw [Nat.zero_add]) (by simp) h0
theorem lcS_cons (f : σ → α → Option β × σ) (x : α) (xs : List α) (s : σ) : lcS f (x :: xs) s = match f s x with
    | (some y, s') => (y :: (lcS f xs s').1, (lcS f xs s').2)
    | (none, s') => lcS f xs s' := rfl
theorem lcS_inv {f : σ → α → Option β × σ} {pre : σ → α → Prop} (I : Nat → σ → Prop) (xs : List α) (s0 : σ) (h0 : I 0 s0) (hs : ∀ i s x, xs[i]? = some x → I i s → pre s x ∧ I (i + 1) (f s x).2) : preS f pre xs s0 ∧ I xs.length (lcS f xs s0).2 := by
  have key : ∀ (ys : List α) (i : Nat) (s : σ), (∀ j, ys[j]? = xs[i + j]?) → i + ys.length = xs.length → I i s → preS f pre ys s ∧ I xs.length (lcS f ys s).2 := by
    intro ys
    induction ys with
    | nil => intro i s _ hl hI; exact ⟨trivial, by simp at hl; exact hl ▸ hI⟩
    | cons y ys ih =>
      intro i s hx hl hI
      have e := hx 0
      simp at e
      obtain ⟨h1, h2⟩ := hs i s y e.symm hI
      obtain ⟨h4, h5⟩ := ih (i + 1) (f s y).2 (fun j => by have := hx (j + 1); simp at this; rw [this]; congr 1; omega) (by simp at hl; omega) h2
      refine ⟨⟨h1, h4⟩, ?_⟩
      show I xs.length (match f s y with
        | (some y, s') => (y :: (lcS f ys s').1, (lcS f ys s').2)
        | (none, s') => lcS f ys s').2
      generalize f s y = z at h5 ⊢
      obtain ⟨z1, z2⟩ := z
      cases z1 <;> exact h5
  exact key xs 0 s0 (fun j => by rw [Nat.zero_add]) (by simp) h0
/-- what a stateful comprehension keeps is a part of the list, in order -/
theorem lcS_sub {f : σ → α → Option α × σ} (hf : ∀ s x y, (f s x).1 = some y → y = x) : ∀ (xs : List α) (s : σ), ((lcS f xs s).1).Sublist xs
  | [], _ => .slnil
  | x :: xs, s => by
    have ih := lcS_sub hf xs
    unfold lcS
    have h := hf s x
    split
    · rename_i y s' e
      rw [e] at h
      have := h y rfl
      subst this
      exact (ih s').cons₂ _
    · rename_i s' e
      exact (ih s').cons _
theorem lcS_all {f : σ → α → Option β × σ} {p : β → Prop} (I : σ → Prop) (xs : List α) (hf : ∀ s x, x ∈ xs → I s → I (f s x).2 ∧ ∀ y, (f s x).1 = some y → p y) : ∀ (s0 : σ), I s0 → ∀ y ∈ (lcS f xs s0).1, p y := by
  induction xs with
  | nil => intro s0 _ y hy; cases hy
  | cons x xs ih =>
    intro s0 h0 y hy
    obtain ⟨h1, h2⟩ := hf s0 x List.mem_cons_self h0
    have ih2 := ih fun s x hx hI => hf s x (List.mem_cons_of_mem _ hx) hI
    unfold lcS at hy
    split at hy
    · rename_i z s' e
      rw [e] at h1 h2
      rcases List.mem_cons.mp hy with rfl | hy
      · exact h2 _ rfl
      · exact ih2 s' h1 y hy
    · rename_i s' e
      rw [e] at h1
      exact ih2 s' h1 y hy
theorem lcS_len {f : σ → α → Option β × σ} (hf : ∀ s x, (f s x).1.isSome = true) : ∀ (xs : List α) (s : σ), ((lcS f xs s).1).length = xs.length
  | [], _ => rfl
  | x :: xs, s => by
    unfold lcS
    have h := hf s x
    split
    · simp [lcS_len hf xs]
    · rename_i s' e
      rw [e] at h; cases h
theorem lcS_le {f : σ → α → Option β × σ} : ∀ (xs : List α) (s : σ), ((lcS f xs s).1).length ≤ xs.length
  | [], _ => Nat.le_refl _
  | x :: xs, s => by
    unfold lcS
    split
    · simp [lcS_le xs]
    · exact Nat.le_succ_of_le (lcS_le xs _)
theorem whF_inv {c : σ → Bool} {f : σ → σ} {pt pre : σ → Prop} (I : σ → Prop) (m : σ → Nat) (hs : ∀ s, I s → pt s ∧ (c s = true → pre s ∧ I (f s) ∧ m (f s) < m s)) : ∀ (n : Nat) (s : σ), m s ≤ n → I s → (∀ s, I s → m s = 0 → c s = false) → preW c f pt pre n s ∧ I (whF c f n s) ∧ c (whF c f n s) = false
  | 0, s, hm, hI, hz => ⟨⟨(hs s hI).1, hz s hI (by omega)⟩, hI, hz s hI (by omega)⟩
  | n + 1, s, hm, hI, hz => by
    unfold preW whF
    obtain ⟨h1, h2⟩ := hs s hI
    cases hc : c s with
    | false => exact ⟨⟨h1, fun z => by cases z⟩, by simpa using hI, by simpa using hc⟩
    | true =>
      obtain ⟨h3, h4, h5⟩ := h2 hc
      obtain ⟨h6, h7, h8⟩ := whF_inv I m hs n (f s) (by omega) h4 hz
      simp only [if_true]
      exact ⟨⟨h1, fun _ => ⟨h3, h6⟩⟩, h7, h8⟩
/-! slices, places -/
theorem atI_ofNat {xs : List α} {k : Nat} (h : k < xs.length) : atI xs (k : Int) = some xs[k] := by rw [atI_nat', List.getElem?_eq_getElem h]
theorem atI_isSome {xs : List α} {i : Int} (h0 : 0 ≤ i) (h : i < xs.length) : (atI xs i).isSome = true := by
  obtain ⟨k, rfl⟩ := Int.eq_ofNat_of_zero_le h0
  rw [atI_ofNat (by omega)]; rfl
theorem ixE_mem [Inhabited α] {xs : List α} {i : Int} (h0 : 0 ≤ i) (h : i < xs.length) : ixE xs i ∈ xs := by
  obtain ⟨k, rfl⟩ := Int.eq_ofNat_of_zero_le h0
  unfold ixE
  rw [atI_ofNat (by omega)]
  exact List.getElem_mem _
theorem sIx_none (n : Nat) (d : Nat) : HT.sIx n d none = d := rfl
theorem cutE_to {xs : List α} {j : Int} (h : 0 ≤ j) : cutE xs none (some j) = xs.take j.toNat := by
  obtain ⟨k, rfl⟩ := Int.eq_ofNat_of_zero_le h
  unfold cutE
  have e : HT.sIx xs.length xs.length (some (k : Int)) = min k xs.length := by
    unfold HT.sIx
    simp only
    split <;> omega
  rw [e, sIx_none]
  simp only [List.drop_zero, Nat.sub_zero, Int.toNat_natCast]
  rw [List.take_eq_take_iff]; omega
theorem cutE_from {xs : List α} {j : Int} (h : 0 ≤ j) : cutE xs (some j) none = xs.drop j.toNat := by
  obtain ⟨k, rfl⟩ := Int.eq_ofNat_of_zero_le h
  unfold cutE
  have e : HT.sIx xs.length 0 (some (k : Int)) = min k xs.length := by
    unfold HT.sIx
    simp only
    split <;> omega
  rw [e, sIx_none]
  rw [List.take_of_length_le (by rw [List.length_drop]; omega)]
  simp only [Int.toNat_natCast]
  by_cases hk : k ≤ xs.length
  · rw [Nat.min_eq_left hk]
  · rw [Nat.min_eq_right (by omega), List.drop_eq_nil_of_le (Nat.le_refl _), List.drop_eq_nil_of_le (by omega)]
theorem cutE_sub {xs : List α} {i j : Option Int} : (cutE xs i j).Sublist xs := (List.take_sublist _ _).trans (List.drop_sublist _ _)
/-! sorted, each once -/
theorem dd_sub [DecidableEq α] : ∀ xs : List α, (dd xs).Sublist xs
  | [] => .slnil
  | x :: xs => by
    rw [dd]
    split
    · exact (dd_sub xs).cons _
    · exact (dd_sub xs).cons₂ _
theorem dd_nodup [DecidableEq α] : ∀ xs : List α, (dd xs).Nodup
  | [] => List.nodup_nil
  | x :: xs => by
    rw [dd]
    split
    · exact dd_nodup xs
    · rename_i h
      exact List.nodup_cons.mpr ⟨h, dd_nodup xs⟩
theorem srtLenE_perm (xs : List (List α)) : (srtLenE xs).Perm xs := List.mergeSort_perm _ _
theorem mem_srtLenE {xs : List (List α)} {a : List α} : a ∈ srtLenE xs ↔ a ∈ xs := (srtLenE_perm xs).mem_iff
theorem srtLenE_length (xs : List (List α)) : (srtLenE xs).length = xs.length := (srtLenE_perm xs).length_eq
theorem srtLenE_pw (xs : List (List α)) : (srtLenE xs).Pairwise fun a b => a.length ≤ b.length := by
  have := List.pairwise_mergeSort (le := fun (a b : List α) => decide (a.length ≤ b.length)) (fun a b c h1 h2 => by simp at *; omega) (fun a b => by simp; omega) xs
  exact this.imp fun h => by simpa using h
theorem dput_keys [DecidableEq α] {kvs : List (α × β)} {k : α} {v : β} : (dput kvs k v).map (·.1) = if k ∈ kvs.map (·.1) then kvs.map (·.1) else kvs.map (·.1) ++ [k] := by
  unfold dput
  split
  · rw [List.map_map]
    refine List.map_congr_left fun kv _ => ?_
    show (if kv.1 = k then (kv.1, v) else kv).1 = kv.1
    split <;> rfl
  · rw [List.map_append]; rfl
theorem getElem?_range_int {n : Nat} {i : Nat} {x : Int} (h : ((List.range n).map Int.ofNat)[i]? = some x) : x = (i : Int) ∧ i < n := by
  rw [List.getElem?_map] at h
  obtain ⟨y, h1, h2⟩ := Option.map_eq_some_iff.mp h
  have := List.getElem?_eq_some_iff.mp h1
  obtain ⟨h3, h4⟩ := this
  simp at h3 h4
  subst h4
  exact ⟨h2.symm, h3⟩
end
theorem fs_true {fs : FS} {ds : List D} {b : Bool} (h : FS1 fs ds [] (.p (eBool.f b))) (hb : b = true) : ∃ M', fs ds [] = .ok (.d (.p (.bool true))) M' := by
  subst hb
  obtain ⟨e, h1, h2⟩ := h
  refine ⟨[], ?_⟩
  rw [h1]
  cases e with
  | d d => cases h2; rfl
  | new o => cases o <;> cases h2
/-! what repr shows -/
def Shw (d : P) (b : Nat) : Prop := d.showable = true ∧ d.leavesShort 13 = true ∧ d.bulk ≤ b
section
variable {α : Type} [DecidableEq α]
theorem Shw.mono {d : P} {b c : Nat} (h : Shw d b) (hb : b ≤ c) : Shw d c := ⟨h.1, h.2.1, Nat.le_trans h.2.2 hb⟩
theorem shw_str {x : Str} {b : Nat} (h : (x.cps.toList.all fun c => decide (c < 16 ^ 8)) = true) (h2 : x.cps.size ≤ b) : Shw (.str x) b := ⟨by simp [PyData.showable], by simp only [PyData.leavesShort]; exact h, by simp only [PyData.bulk]; exact h2⟩
theorem shw_bool (v : Bool) : Shw (.bool v) 0 := ⟨by simp [PyData.showable], by simp [PyData.leavesShort], by simp [PyData.bulk]⟩
theorem shw_none : Shw .none 0 := ⟨by simp [PyData.showable], by simp [PyData.leavesShort], by simp [PyData.bulk]⟩
theorem shw_all {f : α → P} {b : Nat} : ∀ {xs : List α}, (∀ a ∈ xs, Shw (f a) b) → PyData.showableAll (xs.map f) = true ∧ PyData.leavesShortAll 13 (xs.map f) = true ∧ PyData.bulkAll (xs.map f) ≤ xs.length * (b + 1)
  | [], _ => ⟨rfl, rfl, by simp [PyData.bulkAll]⟩
  | x :: xs, h => by
    obtain ⟨h1, h2, h3⟩ := h x List.mem_cons_self
    obtain ⟨k1, k2, k3⟩ := shw_all (xs := xs) fun a ha => h a (List.mem_cons_of_mem _ ha)
    refine ⟨?_, ?_, ?_⟩
    · rw [List.map_cons, PyData.showableAll, h1, k1]; rfl
    · rw [List.map_cons, PyData.leavesShortAll, h2, k2]; rfl
    · rw [List.map_cons, PyData.bulkAll, List.length_cons, Nat.add_mul, Nat.one_mul]; omega
theorem shw_tu {e : Enc α} {b : Nat} {xs : List α} (h : ∀ a ∈ xs, Shw (e.f a) b) : Shw ((eTu e).f xs) (xs.length * (b + 1)) := by
  obtain ⟨k1, k2, k3⟩ := shw_all h
  exact ⟨by simp only [PyData.showable]; exact k1, by simp only [PyData.leavesShort]; exact k2, by simp only [PyData.bulk]; exact k3⟩
theorem shw_li {e : Enc α} {b : Nat} {xs : List α} (h : ∀ a ∈ xs, Shw (e.f a) b) : Shw ((eLi e).f xs) (xs.length * (b + 1)) := by
  obtain ⟨k1, k2, k3⟩ := shw_all h
  exact ⟨by simp only [PyData.showable]; exact k1, by simp only [PyData.leavesShort]; exact k2, by simp only [PyData.bulk]; exact k3⟩
theorem shw_t2 {x y : P} {b c : Nat} (h : Shw x b) (k : Shw y c) : Shw (.tuple [x, y]) (b + c + 2) := by
  obtain ⟨h1, h2, h3⟩ := h
  obtain ⟨k1, k2, k3⟩ := k
  exact ⟨by simp [PyData.showable, PyData.showableAll, h1, k1], by simp [PyData.leavesShort, PyData.leavesShortAll, h2, k2], by simp [PyData.bulk, PyData.bulkAll]; omega⟩
theorem shw_l2 {x y : P} {b c : Nat} (h : Shw x b) (k : Shw y c) : Shw (.list [x, y]) (b + c + 2) := by
  obtain ⟨h1, h2, h3⟩ := h
  obtain ⟨k1, k2, k3⟩ := k
  exact ⟨by simp [PyData.showable, PyData.showableAll, h1, k1], by simp [PyData.leavesShort, PyData.leavesShortAll, h2, k2], by simp [PyData.bulk, PyData.bulkAll]; omega⟩
theorem shw_t3 {x y z : P} {b c d : Nat} (h : Shw x b) (k : Shw y c) (l : Shw z d) : Shw (.tuple [x, y, z]) (b + c + d + 3) := by
  obtain ⟨h1, h2, h3⟩ := h
  obtain ⟨k1, k2, k3⟩ := k
  obtain ⟨l1, l2, l3⟩ := l
  exact ⟨by simp [PyData.showable, PyData.showableAll, h1, k1, l1], by simp [PyData.leavesShort, PyData.leavesShortAll, h2, k2, l2], by simp [PyData.bulk, PyData.bulkAll]; omega⟩
theorem shw_l3 {x y z : P} {b c d : Nat} (h : Shw x b) (k : Shw y c) (l : Shw z d) : Shw (.list [x, y, z]) (b + c + d + 3) := by
  obtain ⟨h1, h2, h3⟩ := h
  obtain ⟨k1, k2, k3⟩ := k
  obtain ⟨l1, l2, l3⟩ := l
  exact ⟨by simp [PyData.showable, PyData.showableAll, h1, k1, l1], by simp [PyData.leavesShort, PyData.leavesShortAll, h2, k2, l2], by simp [PyData.bulk, PyData.bulkAll]; omega⟩
theorem reprOk_shw (e : Enc α) (hd : e.d ≤ 60) {a : α} {b : Nat} (h : Shw (e.f a) b) (hb : b ≤ 1000000) : reprOk (e.f a) = true := by
  obtain ⟨h1, h2, h3⟩ := h
  have fits : (e.f a).shown.length ≤ sizeLine := PyData.shown_fits_bulk (B := 13) (by decide) (by decide) h2 (by
    have e : (2 : Nat) ^ 20 = 1048576 := by decide
    rw [e]; omega)
  unfold reprOk
  rw [e.ok hd, h1, Bool.true_and, Bool.true_and, decide_eq_true fits]
end
end Cb

set_option Elab.async false
set_option linter.all false
set_option maxRecDepth 100000
/-! the package: people, losses -/
namespace Fz
open PySem PySem.Spec PyProof.Rows L2 Cb

def Nms (x : Str) : Prop := x.length ≤ 8 ∧ (x.cps.toList.all fun c => decide (c < 16 ^ 8)) = true ∧ x.cps.size ≤ 8
instance (x : Str) : Decidable (Nms x) := inferInstanceAs (Decidable (_ ∧ _ ∧ _))
theorem Nms.shw {x : Str} (h : Nms x) : Shw (eStr.f x) 8 := shw_str h.2.1 h.2.2
/-- crews of bounded size, of names of a list -/
structure TB (NM : List Str) (xss : List (List Str)) : Prop where
  few : xss.length ≤ 100
  tm : ∀ xs ∈ xss, xs.length ≤ 20 ∧ ∀ x ∈ xs, x ∈ NM
  nm : NM.length ≤ 60 ∧ ∀ x ∈ NM, Nms x
section
variable {NM : List Str} {xss : List (List Str)}
theorem flat_le {α : Type} {n : Nat} : ∀ {xss : List (List α)}, (∀ xs ∈ xss, xs.length ≤ n) → xss.flatten.length ≤ xss.length * n
  | [], _ => by simp
  | x :: xs, h => by
    rw [List.flatten_cons, List.length_append, List.length_cons, Nat.add_mul, Nat.one_mul]
    have h1 := h x List.mem_cons_self
    have h2 := flat_le fun y hy => h y (List.mem_cons_of_mem _ hy)
    omega
theorem TB.line (g : TB NM xss) : xss.length ≤ sizeLine := le_line (by have := g.few; omega)
theorem TB.tline (g : TB NM xss) : ∀ xs ∈ xss, xs.length ≤ sizeLine := fun xs h => le_line (by have := (g.tm xs h).1; omega)
theorem TB.flat (g : TB NM xss) : xss.flatten.length < 4000 := by
  have := flat_le (n := 20) fun xs hx => (g.tm xs hx).1
  have := g.few
  omega
theorem TB.mem (g : TB NM xss) {x : Str} (h : x ∈ xss.flatten) : x ∈ NM := by
  obtain ⟨xs, h1, h2⟩ := List.mem_flatten.mp h
  exact (g.tm xs h1).2 x h2
theorem TB.sub (g : TB NM xss) {yss : List (List Str)} (h : yss.Sublist xss) : TB NM yss := ⟨Nat.le_trans h.length_le g.few, fun ys hy => g.tm ys (h.subset hy), g.nm⟩
theorem shw_nms {xs : List Str} {n : Nat} (hl : xs.length ≤ n) (h : ∀ x ∈ xs, Nms x) : Shw ((eTu eStr).f xs) (n * 9) := (shw_tu fun a ha => (h a ha).shw).mono (Nat.mul_le_mul_right 9 hl)
theorem TB.shw (g : TB NM xss) : Shw ((eTu (eTu eStr)).f xss) 18100 := (shw_tu (b := 180) fun a ha => shw_nms (g.tm a ha).1 fun x hx => g.nm.2 x ((g.tm a ha).2 x hx)).mono (by have := g.few; omega)
theorem mem_people {x : Str} : x ∈ t_people_of xss ↔ x ∈ xss.flatten := by
  unfold t_people_of
  rw [mem_srtE, mem_dd]
theorem people_nodup : (t_people_of xss).Nodup := by
  unfold t_people_of
  rw [srtE_nodup]; exact dd_nodup _
theorem preF_all {α : Type} {f : Unit → α → Unit} {p : α → Prop} {pre : Unit → α → Prop} (hp : ∀ u a, p a → pre u a) {xs : List α} (h : ∀ a ∈ xs, p a) : preF f pre xs () := (foldl_inv (fun _ _ => True) xs () trivial fun i s x hx _ => ⟨hp s x (h x (List.mem_of_getElem? hx)), trivial⟩).1
theorem require_ok (g : TB NM xss) {lots : List (List Str)} (hl : lots.length ≤ sizeLine) (h : ∀ lot ∈ lots, lot.length ≤ sizeLine ∧ ∀ x ∈ lot, x ∈ xss.flatten) : pre_require_people xss lots := by
  refine ⟨g.flat, hl, preF_all (p := fun lot => lot.length ≤ sizeLine ∧ ∀ x ∈ lot, x ∈ xss.flatten) (fun u lot hlot => ⟨hlot.1, ?_⟩) h⟩
  refine preF_all (p := fun x => x ∈ xss.flatten) (fun u x hx => ?_) hlot.2
  show (!decide (x ∈ t_people_of xss)) = false
  rw [Bool.not_eq_false', decide_eq_true_eq]
  exact mem_people.mpr hx
theorem mem_left {ps : List Str} {c : List Str} : c ∈ t_left_in xss ps ↔ c ∈ xss ∧ ∀ x ∈ c, x ∈ ps := by
  unfold t_left_in
  rw [List.mem_filter, List.all_map, List.all_eq_true]
  simp
theorem left_sub {ps : List Str} : (t_left_in xss ps).Sublist xss := List.filter_sublist
theorem left_pre (g : TB NM xss) {ps : List Str} : pre_left_in xss ps := ⟨g.line, g.tline⟩
theorem followers_pre (g : TB NM xss) {c : List Str} {l : Str} {w : Int} {yss : List (List Str)} (h : yss.Sublist xss) : pre_followers_among yss c l w := fun _ => ⟨(g.sub h).line, fun o ho => (g.sub h).tline o ho⟩
theorem without_sub {ps ls : List Str} : (t_present_without ps ls).Sublist ps := List.filter_sublist
theorem mem_without {ps ls : List Str} {x : Str} : x ∈ t_present_without ps ls ↔ x ∈ ps ∧ x ∉ ls := by
  unfold t_present_without
  rw [List.mem_filter]; simp
theorem loss_word_pre (g : TB NM xss) {ps c : List Str} {l : Str} {w : Int} (hp : ps.length ≤ sizeLine ∧ ∀ x ∈ ps, x ∈ xss.flatten) (hc : c.length ≤ sizeLine ∧ ∀ x ∈ c, x ∈ xss.flatten) (hl : l ∈ xss.flatten) : pre_loss_word xss ps c l w := by
  refine ⟨require_ok g (le_small (k := 3) rfl (by decide)) fun lot h => ?_, ⟨hp.1, left_pre g⟩, fun _ _ => followers_pre g left_sub⟩
  simp only [List.cons_append, List.nil_append, List.mem_cons, List.not_mem_nil, or_false] at h
  rcases h with rfl | rfl | rfl
  · exact hp
  · exact hc
  · exact ⟨le_small (k := 1) rfl (by decide), fun x hx => by rw [List.mem_singleton.mp hx]; exact hl⟩
theorem answers_pre (g : TB NM xss) {ps c : List Str} {l : Str} {w : Int} (hp : ps.length ≤ sizeLine ∧ ∀ x ∈ ps, x ∈ xss.flatten) (hc : c.length ≤ sizeLine ∧ ∀ x ∈ c, x ∈ xss.flatten) (hl : l ∈ xss.flatten) : pre_answers xss ps c l w := by
  refine ⟨require_ok g (le_small (k := 3) rfl (by decide)) fun lot h => ?_, ⟨hp.1, left_pre g⟩, fun _ => followers_pre g left_sub⟩
  simp only [List.cons_append, List.nil_append, List.mem_cons, List.not_mem_nil, or_false] at h
  rcases h with rfl | rfl | rfl
  · exact hp
  · exact hc
  · exact ⟨le_small (k := 1) rfl (by decide), fun x hx => by rw [List.mem_singleton.mp hx]; exact hl⟩
end
end Fz

set_option Elab.async false
set_option linter.all false
set_option maxRecDepth 100000
/-! k17 .. k33: the feed, the teams, the scenes. -/
namespace Fz
open PySem PySem.Spec PyProof.Rows L2 Cb

abbrev Feed := List Int × Int × Int × Int
/-- at most b draws so far -/
def FdOk (b : Nat) (fd : Feed) : Prop := 0 ≤ fd.2.1 ∧ 0 ≤ fd.2.2.2 ∧ fd.2.2.2 ≤ (b : Int)
theorem FdOk.mono {b c : Nat} {fd : Feed} (h : FdOk b fd) (hb : b ≤ c) : FdOk c fd := ⟨h.1, h.2.1, by have := h.2.2; omega⟩
theorem draw_spec {b : Nat} {fd : Feed} {l : Int} (h : FdOk b fd) (hb : b < 1000000) (h0 : 0 < l) (h1 : l < 1073741824) :
    pre_law_draw fd l ∧ (0 ≤ (t_law_draw fd l).1 ∧ (t_law_draw fd l).1 < l) ∧ FdOk (b + 1) (t_law_draw fd l).2 := by
  obtain ⟨c, nx, rs, dr⟩ := fd
  obtain ⟨hn, hd, hd2⟩ := h
  simp only at hn hd hd2
  have k1 : 0 ≤ 137 * (dr + 1) * (dr + 1 + 3) := Int.mul_nonneg (by omega) (by omega)
  have k2 : 137 * (dr + 1) * (dr + 1 + 3) ≤ 137000000 * 1000004 := Int.mul_le_mul (by omega) (by omega) (by omega) (by decide)
  refine ⟨?_, ?_, ?_⟩
  · unfold pre_law_draw
    simp only
    refine ⟨fun _ => ⟨h0, h0, h1⟩, fun _ => ⟨fun hc => ?_, ⟨by decide, by decide, by decide, by decide⟩, fun _ => ⟨⟨h0, h1⟩, h0⟩, fun _ => ?_⟩⟩
    · have hc' : c ≠ [] := by simpa using hc
      have hl : 0 < c.length := List.length_pos_iff.mpr hc'
      have h2 : 0 ≤ nx % (c.length : Int) := Int.emod_nonneg _ (by omega)
      have h3 : nx % (c.length : Int) < c.length := Int.emod_lt_of_pos _ (by omega)
      exact ⟨by omega, atI_isSome h2 h3⟩
    · have a1 := Int.emod_nonneg (t_law_draw_x1 (c, nx, rs, dr) l) (show (1000005209 : Int) ≠ 0 by decide)
      have a2 := Int.emod_lt_of_pos (t_law_draw_x1 (c, nx, rs, dr) l) (show (0 : Int) < 1000005209 by decide)
      have e2 : t_law_draw_x2 (c, nx, rs, dr) l = ((t_law_draw_x1 (c, nx, rs, dr) l % 1000005209 + 137 * (dr + 1) * (dr + 1 + 3) + 19) ^ (5 : Int).toNat) % 2147483237 := rfl
      have b1 : 0 ≤ t_law_draw_x2 (c, nx, rs, dr) l := by rw [e2]; exact Int.emod_nonneg _ (by decide)
      have b2 : t_law_draw_x2 (c, nx, rs, dr) l < 2147483237 := by rw [e2]; exact Int.emod_lt_of_pos _ (by decide)
      generalize t_law_draw_x1 (c, nx, rs, dr) l = x1 at *
      generalize t_law_draw_x2 (c, nx, rs, dr) l = x2 at *
      have c1 : 0 ≤ x2 * (2 * (dr + 1) + 7) := Int.mul_nonneg b1 (by omega)
      have c2 : x2 * (2 * (dr + 1) + 7) ≤ 2147483237 * 2000010 := Int.mul_le_mul (by omega) (by omega) (by omega) (by decide)
      refine ⟨⟨⟨⟨by decide, cMul_l (by decide) (by decide), cMul_l (by omega) (by omega)⟩, ⟨by decide, by decide, by omega, by omega⟩⟩, by decide⟩, ⟨⟨⟨⟨⟨cMul_l (by decide) (by decide), cMul_l (by omega) (by omega)⟩, cMul_l (by decide) (by decide)⟩, ⟨by decide, by decide, by omega, by omega⟩⟩, by decide⟩, by decide, by decide⟩, h0⟩
  · unfold t_law_draw
    split
    · exact ⟨Int.emod_nonneg _ (by omega), Int.emod_lt_of_pos _ h0⟩
    · split
      · exact ⟨Int.emod_nonneg _ (by omega), Int.emod_lt_of_pos _ h0⟩
      · exact ⟨Int.emod_nonneg _ (by omega), Int.emod_lt_of_pos _ h0⟩
  · unfold t_law_draw FdOk
    split
    · exact ⟨hn, by simp only; omega, by simp only; omega⟩
    · split
      · exact ⟨by simp only; omega, by simp only; omega, by simp only; omega⟩
      · exact ⟨by simp only; omega, by simp only; omega, by simp only; omega⟩
theorem choice_spec {b : Nat} {fd : Feed} {xs : List (List Str)} (h : FdOk b fd) (hb : b < 1000000) (hx : xs ≠ []) (hl : xs.length < 1000000) :
    pre_law_choice fd xs ∧ (t_law_choice fd xs).1 ∈ xs ∧ FdOk (b + 1) (t_law_choice fd xs).2 := by
  have hp := List.length_pos_iff.mpr hx
  obtain ⟨h1, h2, h3⟩ := draw_spec (l := (xs.length : Int)) h hb (by omega) (by omega)
  exact ⟨⟨h1, atI_isSome h2.1 h2.2⟩, ixE_mem h2.1 h2.2, h3⟩
theorem choice_spec2 {b : Nat} {fd : Feed} {xs : List Str} (h : FdOk b fd) (hb : b < 1000000) (hx : xs ≠ []) (hl : xs.length < 1000000) :
    pre_law_choice_i2 fd xs ∧ (t_law_choice_i2 fd xs).1 ∈ xs ∧ FdOk (b + 1) (t_law_choice_i2 fd xs).2 := by
  have hp := List.length_pos_iff.mpr hx
  obtain ⟨h1, h2, h3⟩ := draw_spec (l := (xs.length : Int)) h hb (by omega) (by omega)
  exact ⟨⟨h1, atI_isSome h2.1 h2.2⟩, ixE_mem h2.1 h2.2, h3⟩
theorem choice_spec3 {b : Nat} {fd : Feed} {xs : List Int} (h : FdOk b fd) (hb : b < 1000000) (hx : xs ≠ []) (hl : xs.length < 1000000) :
    pre_law_choice_i3 fd xs ∧ (t_law_choice_i3 fd xs).1 ∈ xs ∧ FdOk (b + 1) (t_law_choice_i3 fd xs).2 := by
  have hp := List.length_pos_iff.mpr hx
  obtain ⟨h1, h2, h3⟩ := draw_spec (l := (xs.length : Int)) h hb (by omega) (by omega)
  exact ⟨⟨h1, atI_isSome h2.1 h2.2⟩, ixE_mem h2.1 h2.2, h3⟩
/-! teams -/
def NM8 : List Str := [("ann" : Str), ("bo" : Str), ("cy" : Str), ("d" : Str), ("eve" : Str), ("longname" : Str), ("m" : Str), ("z" : Str)]
theorem NM8_nodup : NM8.Nodup := by decide
theorem NM8_srt : NM8.Pairwise fun a b => leE eStr a b = true := by rw [leE_eStr]; decide
theorem NM8_short : ∀ x ∈ NM8, x.length ≤ 8 ∧ (x.cps.toList.all fun c => decide (c < 16 ^ 8)) = true ∧ x.cps.size ≤ 8 := by decide
/-- a team: some of the names, in order -/
def Tm (xs : List Str) : Prop := xs.Sublist NM8
theorem Tm.len {xs : List Str} (h : Tm xs) : xs.length ≤ 8 := h.length_le
theorem Tm.nd {xs : List Str} (h : Tm xs) : xs.Nodup := h.nodup NM8_nodup
theorem Tm.srt {xs : List Str} (h : Tm xs) : xs.Pairwise fun a b => leE eStr a b = true := NM8_srt.sublist h
theorem Tm.of {xs ys : List Str} (h : Tm xs) (s : ys.Sublist xs) : Tm ys := s.trans h
theorem Tm.line {xs : List Str} (h : Tm xs) : xs.length ≤ sizeLine := le_line (by have := h.len; omega)
theorem shw_nm {x : Str} (h : x ∈ NM8) : Shw (eStr.f x) 8 := shw_str (NM8_short x h).2.1 (NM8_short x h).2.2
theorem Tm.shw {xs : List Str} (h : Tm xs) : Shw ((eTu eStr).f xs) 72 := (shw_tu fun a ha => shw_nm (h.subset ha)).mono (by have := h.len; omega)
structure TF (xss : List (List Str)) : Prop where
  few : xss.length ≤ 12
  ne : xss ≠ []
  tm : ∀ xs ∈ xss, Tm xs ∧ xs ≠ []
  nd : xss.Nodup
  srt : xss.Pairwise fun a b => leE (eTu eStr) a b = true
  anti : ∀ a ∈ xss, ∀ b ∈ xss, (∀ x ∈ a, x ∈ b) → a = b
theorem TF.line {xss : List (List Str)} (g : TF xss) : xss.length ≤ sizeLine := le_line (by have := g.few; omega)
theorem TF.shw {xss : List (List Str)} (g : TF xss) : Shw ((eTu (eTu eStr)).f xss) 876 := (shw_tu fun a ha => (g.tm a ha).1.shw).mono (by have := g.few; omega)
theorem TF.flat {xss : List (List Str)} (g : TF xss) : xss.flatten.length < 4000 := by
  have := flat_le (n := 8) fun xs hx => (g.tm xs hx).1.len
  have := g.few
  omega
theorem TF.mem {xss : List (List Str)} (g : TF xss) {x : Str} (h : x ∈ xss.flatten) : x ∈ NM8 := by
  obtain ⟨xs, h1, h2⟩ := List.mem_flatten.mp h
  exact (g.tm xs h1).1.subset h2
/-- is part -/
theorem is_part_iff {a b : List Str} : t_law_is_part a b = true ↔ ∀ x ∈ a, x ∈ b := by
  unfold t_law_is_part
  rw [decide_eq_true_eq, List.filter_eq_nil_iff]
  simp
theorem NM8_nms : NM8.length ≤ 60 ∧ ∀ x ∈ NM8, Nms x := by decide
theorem TF.tb {xss : List (List Str)} (g : TF xss) : TB NM8 xss := ⟨by have := g.few; omega, fun xs h => ⟨by have := (g.tm xs h).1.len; omega, fun x hx => (g.tm xs h).1.subset hx⟩, NM8_nms⟩
/-! all sets of one size -/
def lensN (z : Nat) : Nat → List Nat
  | 0 => [0]
  | n + 1 => lensN z n ++ ((lensN z n).filter (· < z)).map (· + 1)
def lensP (n z : Nat) : Bool := decide ((lensN z n).length ≤ 256) && (!(decide (1 ≤ z) && decide (z ≤ n) && (decide (z ≤ 2) || decide (z + 1 = n))) || (decide (0 < ((lensN z n).filter (· = z)).length) && decide (((lensN z n).filter (· = z)).length < 64)))
theorem lens_fact0 : ((List.range 9).all fun n => (List.range 9).all fun z => lensP n z) = true := by decide +kernel
theorem lens_fact (n : Nat) (hn : n ≤ 8) (z : Nat) (hz : z ≤ 8) : (lensN z n).length ≤ 256 ∧ (1 ≤ z → z ≤ n → (z ≤ 2 ∨ z + 1 = n) → 0 < ((lensN z n).filter (· = z)).length ∧ ((lensN z n).filter (· = z)).length < 64) := by
  have h := List.all_eq_true.mp (List.all_eq_true.mp lens_fact0 n (List.mem_range.mpr (by omega))) z (List.mem_range.mpr (by omega))
  unfold lensP at h
  rw [Bool.and_eq_true, decide_eq_true_eq] at h
  refine ⟨h.1, fun h1 h2 h3 => ?_⟩
  have h4 := h.2
  have e : (decide (1 ≤ z) && decide (z ≤ n) && (decide (z ≤ 2) || decide (z + 1 = n))) = true := by
    rw [decide_eq_true h1, decide_eq_true h2]
    rcases h3 with h3 | h3
    · rw [decide_eq_true h3]; rfl
    · rw [decide_eq_true h3, Bool.or_true]; rfl
  rw [e] at h4
  simpa using h4
theorem sets_inv {names : List Str} {z : Nat} (hn : names.length ≤ 8) (hz : z ≤ 8) : preF (t_law_sets_of_b1 names (z : Int)) (pre_law_sets_of_b1 names (z : Int)) names [[]] ∧ ((t_law_sets_of_l1 names (z : Int)).map List.length = lensN z names.length ∧ ∀ xs ∈ t_law_sets_of_l1 names (z : Int), xs.Sublist names) := by
  have := foldl_inv (f := t_law_sets_of_b1 names (z : Int)) (pre := pre_law_sets_of_b1 names (z : Int)) (fun i s => s.map List.length = lensN z i ∧ ∀ xs ∈ s, xs.Sublist (names.take i)) names [[]] ⟨rfl, by simp⟩ ?_
  · rw [List.take_length] at this
    exact this
  · rintro i s x hx ⟨h1, h2⟩
    have hi := (List.getElem?_eq_some_iff.mp hx).1
    have hl : s.length ≤ 256 := by
      have := congrArg List.length h1
      rw [List.length_map] at this
      rw [this]; exact (lens_fact i (by omega) z hz).1
    have tk : names.take (i + 1) = names.take i ++ [x] := by rw [List.take_add_one, hx]; rfl
    refine ⟨⟨⟨le_line (by omega), fun a ha _ => ?_⟩, ?_⟩, ?_, ?_⟩
    · have h3 := (h2 a ha).length_le
      rw [List.length_take] at h3
      exact le_line (by simp; omega)
    · have := List.length_filter_le (fun (a : List Str) => decide ((a.length : Int) < (z : Int))) s
      exact le_line (by rw [List.length_map]; omega)
    · show (s ++ (s.filter fun a => decide ((a.length : Int) < (z : Int))).map fun a => a ++ [x]).map List.length = lensN z i ++ ((lensN z i).filter (· < z)).map (· + 1)
      rw [List.map_append, h1]
      congr 1
      rw [← h1, List.filter_map, List.map_map, List.map_map]
      have e : (s.filter fun a => decide ((a.length : Int) < (z : Int))) = s.filter ((fun x => decide (x < z)) ∘ List.length) := by
        refine List.filter_congr fun a _ => ?_
        show decide _ = decide (a.length < z)
        rw [decide_eq_decide]; omega
      rw [e]
      refine List.map_congr_left fun a _ => ?_
      simp
    · intro xs hxs
      rw [tk]
      rcases List.mem_append.mp hxs with h3 | h3
      · exact (h2 xs h3).trans (List.sublist_append_left _ _)
      · obtain ⟨a, ha, rfl⟩ := List.mem_map.mp h3
        exact (h2 a (List.mem_filter.mp ha).1).append (List.Sublist.refl _)
theorem sets_spec {names : List Str} {z : Nat} (hn : Tm names) (h1 : 1 ≤ z) (h2 : z ≤ names.length) (h3 : z ≤ 2 ∨ z + 1 = names.length) :
    pre_law_sets_of names (z : Int) ∧ (t_law_sets_of names (z : Int)).length < 64 ∧ t_law_sets_of names (z : Int) ≠ [] ∧ ∀ xs ∈ t_law_sets_of names (z : Int), Tm xs ∧ xs ≠ [] := by
  have hl := hn.len
  obtain ⟨p, e, s⟩ := sets_inv (z := z) hl (by omega)
  obtain ⟨f1, f2⟩ := lens_fact names.length hl z (by omega)
  obtain ⟨f3, f4⟩ := f2 h1 h2 h3
  have el : (t_law_sets_of names (z : Int)).length = ((lensN z names.length).filter (· = z)).length := by
    rw [← e, List.filter_map, List.length_map]
    unfold t_law_sets_of
    congr 1
    refine List.filter_congr fun a _ => ?_
    show decide _ = decide (a.length = z)
    rw [decide_eq_decide]; omega
  have hlen := congrArg List.length e
  rw [List.length_map] at hlen
  refine ⟨⟨⟨hn.line, p⟩, le_line (by omega)⟩, by omega, fun z0 => by rw [z0] at el; simp at el; omega, fun xs hxs => ?_⟩
  obtain ⟨g1, g2⟩ := List.mem_filter.mp hxs
  refine ⟨hn.of (s xs g1), fun z0 => ?_⟩
  subst z0
  simp at g2
  omega
theorem sub_back {α : Type} [DecidableEq α] : ∀ {x a : List α}, x.Nodup → (∀ y ∈ x, y ∈ a) → a.length ≤ x.length → ∀ y ∈ a, y ∈ x
  | [], a, _, _, hl => fun y hy => by
    have : a = [] := List.length_eq_zero_iff.mp (by simpa using hl)
    rw [this] at hy; cases hy
  | z :: x, a, hn, hs, hl => fun y hy => by
    obtain ⟨n1, n2⟩ := List.nodup_cons.mp hn
    have hz := hs z List.mem_cons_self
    have ih := sub_back (a := a.erase z) n2 (fun w hw => (List.mem_erase_of_ne (fun (e : w = z) => n1 (e ▸ hw))).mpr (hs w (List.mem_cons_of_mem _ hw))) (by
      rw [List.length_erase_of_mem hz]; simp at hl; omega)
    by_cases e : y = z
    · rw [e]; exact List.mem_cons_self
    · exact List.mem_cons_of_mem _ (ih y ((List.mem_erase_of_ne e).mpr hy))
/-! the least sets -/
theorem minimal_spec {sets : List (List Str)} (h1 : sets.length < 64) (h2 : ∀ xs ∈ sets, Tm xs ∧ xs ≠ []) (h3 : sets ≠ []) : pre_law_minimal sets ∧ TF (t_law_minimal sets) := by
  generalize hw : srtLenE (srtE (eTu eStr) (dd sets)) = ws
  have hmem : ∀ {xs}, xs ∈ ws → xs ∈ sets := fun {xs} h => by
    rw [← hw] at h
    exact mem_dd.mp (mem_srtE.mp (mem_srtLenE.mp h))
  have hlen : ws.length ≤ 64 := by
    rw [← hw, srtLenE_length, srtE_length]
    exact Nat.le_trans (dd_sub sets).length_le (by omega)
  have hpw : ws.Pairwise fun a b => a.length ≤ b.length := by rw [← hw]; exact srtLenE_pw _
  have hnd : ws.Nodup := by rw [← hw]; exact (srtLenE_perm _).nodup_iff.mpr (srtE_nodup.mpr (dd_nodup _))
  have hne : ws ≠ [] := by
    intro z
    obtain ⟨x, hx⟩ := List.exists_mem_of_ne_nil _ h3
    have : x ∈ ws := by rw [← hw]; exact mem_srtLenE.mpr (mem_srtE.mpr (mem_dd.mpr hx))
    rw [z] at this; cases this
  obtain ⟨p, k1, k2, k3⟩ := foldl_inv (f := t_law_minimal_b1 sets) (pre := pre_law_minimal_b1 sets) (fun i s => s.Sublist (ws.take i) ∧ (0 < i → s ≠ []) ∧ ∀ a ∈ s, ∀ b ∈ s, (∀ x ∈ a, x ∈ b) → a = b) ws [] ⟨by simp, by simp, by simp⟩ (by
    rintro i s x hx ⟨g1, g2, g3⟩
    have hi := (List.getElem?_eq_some_iff.mp hx).1
    have tk : ws.take (i + 1) = ws.take i ++ [x] := by rw [List.take_add_one, hx]; rfl
    have sl : s.length ≤ 64 := Nat.le_trans g1.length_le (by rw [List.length_take]; omega)
    have hin : ∀ a ∈ s, a ∈ ws := fun a ha => List.mem_of_mem_take (g1.subset ha)
    refine ⟨⟨⟨le_line (by omega), fun a ha => (h2 a (hmem (hin a ha))).1.line⟩, fun _ => lt_line (by omega)⟩, ?_⟩
    show (List.Sublist (if _ then _ else _) _) ∧ _
    unfold t_law_minimal_b1
    split
    · rename_i hc
      have hc' : ∀ a ∈ s, ¬ ∀ y ∈ a, y ∈ x := by
        intro a ha hh
        rw [decide_eq_true_eq, List.filter_eq_nil_iff] at hc
        exact hc a ha (is_part_iff.mpr hh)
      refine ⟨by rw [tk]; exact g1.append (List.Sublist.refl _), fun _ => by simp, fun a ha b hb hab => ?_⟩
      have back : ∀ a ∈ s, (∀ y ∈ x, y ∈ a) → False := by
        intro a ha hh
        have hxw : x ∈ ws := List.mem_of_getElem? hx
        have l1 : a.length ≤ x.length := by
          have hj := g1.subset ha
          obtain ⟨j, hj1, hj2⟩ := List.getElem_of_mem hj
          rw [List.length_take] at hj1
          rw [List.getElem_take] at hj2
          have := List.pairwise_iff_getElem.mp hpw j i (by omega) hi (by omega)
          rw [hj2] at this
          rw [List.getElem?_eq_getElem hi] at hx
          injection hx with hx
          rw [hx] at this
          exact this
        have nx : x.Nodup := (h2 x (hmem hxw)).1.nd
        exact hc' a ha (sub_back nx hh l1)
      rcases List.mem_append.mp ha with ha | ha
      · rcases List.mem_append.mp hb with hb | hb
        · exact g3 a ha b hb hab
        · rw [List.mem_singleton.mp hb] at hab
          exact absurd hab (hc' a ha)
      · rw [List.mem_singleton.mp ha] at hab ⊢
        rcases List.mem_append.mp hb with hb | hb
        · exact (back b hb hab).elim
        · exact (List.mem_singleton.mp hb).symm
    · rename_i hc
      refine ⟨by rw [tk]; exact g1.trans (List.sublist_append_left _ _), fun _ hz => ?_, g3⟩
      rw [hz] at hc
      simp at hc)
  have el : t_law_minimal_l1 sets = ws.foldl (t_law_minimal_b1 sets) [] := by unfold t_law_minimal_l1; rw [hw]
  rw [List.take_length, ← el] at k1
  rw [← el] at k2 k3
  have hc12 : cutE (t_law_minimal_l1 sets) none (some 12) = (t_law_minimal_l1 sets).take 12 := cutE_to (j := 12) (by decide)
  have hin : ∀ a ∈ t_law_minimal_l1 sets, a ∈ sets := fun a ha => hmem (k1.subset ha)
  have hin2 : ∀ a ∈ t_law_minimal sets, a ∈ t_law_minimal_l1 sets := fun a ha => by
    unfold t_law_minimal at ha
    rw [hc12] at ha
    exact List.mem_of_mem_take (mem_srtE.mp ha)
  refine ⟨⟨⟨⟨h1, fun z hz => (h2 z hz).2⟩, by rw [hw]; exact le_line (by omega), by rw [hw]; exact p⟩, fun z hz => ?_⟩, ?_, ?_, ?_, ?_, ?_, ?_⟩
  · rw [hc12] at hz
    exact (h2 z (hin z (List.mem_of_mem_take hz))).2
  · unfold t_law_minimal
    rw [srtE_length, hc12, List.length_take]; omega
  · intro z
    have := congrArg List.length z
    unfold t_law_minimal at this
    rw [srtE_length, hc12, List.length_take] at this
    have h5 := List.length_pos_iff.mpr (k2 (List.length_pos_iff.mpr hne))
    rw [List.length_nil] at this
    omega
  · exact fun xs hx => h2 xs (hin xs (hin2 xs hx))
  · unfold t_law_minimal
    rw [srtE_nodup, hc12]
    exact (k1.nodup hnd).sublist (List.take_sublist _ _)
  · exact srtE_pw _ _
  · exact fun a ha b hb => k3 a (hin2 a ha) b (hin2 b hb)
end Fz

set_option Elab.async false
set_option linter.all false
set_option maxRecDepth 100000
namespace Fz
open PySem PySem.Spec PyProof.Rows L2 Cb

theorem teams_spec {b : Nat} {fd : Feed} {m : Nat} (h : FdOk b fd) (hb : b < 900000) (hm1 : 1 ≤ m) (hm : m ≤ 8) :
    pre_law_teams fd (m : Int) ∧ TF (t_law_teams fd (m : Int)).1 ∧ FdOk (b + 200) (t_law_teams fd (m : Int)).2 := by
  -- the pool
  obtain ⟨w1, ⟨w2, w3, w4⟩, w5⟩ := whF_inv (c := t_law_teams_wc1 fd (m : Int)) (f := t_law_teams_w1 fd (m : Int)) (pt := pre_law_teams_wc1 fd (m : Int)) (pre := pre_law_teams_w1 fd (m : Int))
    (fun s => Tm s.2 ∧ m ≤ s.2.length ∧ FdOk (b + 8 - s.2.length) s.1) (fun s => s.2.length - m) (by
      rintro ⟨s1, s2⟩ ⟨g1, g2, g3⟩
      refine ⟨trivial, fun hc => ?_⟩
      have hc' : m < s2.length := by
        have : decide ((m : Int) < (s2.length : Int)) = true := hc
        rw [decide_eq_true_eq] at this; omega
      have gl := g1.len
      simp only at g1 g2 g3 gl
      obtain ⟨d1, d2, d3⟩ := draw_spec (l := (s2.length : Int)) g3 (by omega) (by omega) (by omega)
      have el : (s2.eraseIdx (t_law_draw s1 (s2.length : Int)).1.toNat).length = s2.length - 1 := List.length_eraseIdx_of_lt (by omega)
      refine ⟨⟨d1, d2.1, d2.2, g1.line⟩, ⟨g1.of (List.eraseIdx_sublist _ _), ?_, ?_⟩, ?_⟩
      · show m ≤ (s2.eraseIdx _).length
        exact el ▸ (by omega)
      · show FdOk (b + 8 - (s2.eraseIdx _).length) _
        exact d3.mono (by rw [show (s2.eraseIdx (t_law_teams_x4 fd (m : Int) (s1, s2)).1.toNat).length = s2.length - 1 from el]; omega)
      · show (s2.eraseIdx _).length - m < s2.length - m
        rw [show (s2.eraseIdx (t_law_teams_x4 fd (m : Int) (s1, s2)).1.toNat).length = s2.length - 1 from el]; omega) 64 (fd, NM8) (by show 8 - m ≤ 64; omega) ⟨List.Sublist.refl _, hm, h.mono (by show b ≤ b + 8 - 8; omega)⟩ (by
      rintro ⟨s1, s2⟩ ⟨g1, g2, g3⟩ hz
      simp only at hz g2
      show decide ((m : Int) < (s2.length : Int)) = false
      rw [decide_eq_false_iff_not]; omega)
  have ew : whF (t_law_teams_wc1 fd (m : Int)) (t_law_teams_w1 fd (m : Int)) 64 (fd, NM8) = t_law_teams_wl1 fd (m : Int) := rfl
  rw [ew] at w2 w3 w4
  have wl := w2.len
  -- its beginning
  obtain ⟨d1, d2, d3⟩ := draw_spec (l := (m : Int)) w4 (by omega) (by omega) (by omega)
  have ec : cutE (t_law_teams_wl1 fd (m : Int)).2 none (some (1 + (t_law_teams_x5 fd (m : Int)).1)) = (t_law_teams_wl1 fd (m : Int)).2.take (1 + (t_law_teams_x5 fd (m : Int)).1).toNat := cutE_to (by show 0 ≤ 1 + (t_law_draw _ _).1; omega)
  have tp : Tm (cutE (t_law_teams_wl1 fd (m : Int)).2 none (some (1 + (t_law_teams_x5 fd (m : Int)).1))) := w2.of (by rw [ec]; exact List.take_sublist _ _)
  have pl : 1 ≤ (cutE (t_law_teams_wl1 fd (m : Int)).2 none (some (1 + (t_law_teams_x5 fd (m : Int)).1))).length := by
    rw [ec, List.length_take]
    have : 0 ≤ (t_law_teams_x5 fd (m : Int)).1 := d2.1
    omega
  have d3' : FdOk (b + 10) (t_law_teams_x5 fd (m : Int)).2 := d3.mono (by omega)
  obtain ⟨e1, e2, e3⟩ := draw_spec (l := 4) d3' (by omega) (by decide) (by decide)
  have e3' : FdOk (b + 11) (t_law_teams_x6 fd (m : Int)).2 := e3
  generalize hpool : cutE (t_law_teams_wl1 fd (m : Int)).2 none (some (1 + (t_law_teams_x5 fd (m : Int)).1)) = pool at tp pl
  have tl := tp.len
  -- all sets of one size
  have caseA : (pre_law_choice_i3 (t_law_teams_x6 fd (m : Int)).2 [1, (pool.length : Int) - 1, minI 2 (pool.length : Int)] ∧ pre_law_sets_of pool (t_law_teams_x8 fd (m : Int)).1) ∧ pre_law_minimal (t_law_sets_of pool (t_law_teams_x8 fd (m : Int)).1) ∧ TF (t_law_minimal (t_law_sets_of pool (t_law_teams_x8 fd (m : Int)).1)) ∧ FdOk (b + 12) (t_law_teams_x7 fd (m : Int)).2 := by
    have x7 : t_law_teams_x7 fd (m : Int) = t_law_choice_i3 (t_law_teams_x6 fd (m : Int)).2 [1, (pool.length : Int) - 1, minI 2 (pool.length : Int)] := by unfold t_law_teams_x7; rw [hpool]
    obtain ⟨c1, c2, c3⟩ := choice_spec3 (xs := [1, (pool.length : Int) - 1, minI 2 (pool.length : Int)]) e3' (by omega) (by simp) (by simp)
    rw [← x7] at c2 c3
    have x8 : (t_law_teams_x8 fd (m : Int)).1 = if (t_law_teams_x7 fd (m : Int)).1 = 0 then 1 else (t_law_teams_x7 fd (m : Int)).1 := by unfold t_law_teams_x8; split <;> rfl
    obtain ⟨z, ez, z1, z2, z3⟩ : ∃ z : Nat, (t_law_teams_x8 fd (m : Int)).1 = (z : Int) ∧ 1 ≤ z ∧ z ≤ pool.length ∧ (z ≤ 2 ∨ z + 1 = pool.length) := by
      rw [x8]
      simp only [List.mem_cons, List.not_mem_nil, or_false] at c2
      unfold minI at c2
      split
      · exact ⟨1, rfl, by omega, by omega, by omega⟩
      · rename_i hz
        rcases c2 with c2 | c2 | c2
        · exact ⟨1, c2, by omega, by omega, by omega⟩
        · exact ⟨pool.length - 1, by omega, by omega, by omega, by omega⟩
        · split at c2
          · exact ⟨pool.length, by omega, by omega, by omega, by omega⟩
          · exact ⟨2, by omega, by omega, by omega, by omega⟩
    rw [ez]
    obtain ⟨s1, s2, s3, s4⟩ := sets_spec tp z1 z2 z3
    obtain ⟨m1, m2⟩ := minimal_spec s2 s4 s3
    exact ⟨⟨c1, s1⟩, m1, m2, c3⟩
  -- sets as drawn
  have caseB : pre_law_draw (t_law_teams_x6 fd (m : Int)).2 3 ∧ (pre_law_draw (t_law_teams_x9 fd (m : Int)).2 9 ∧ -1000000000000 ≤ 2 + (t_law_teams_x11 fd (m : Int)).1 ∧ 2 + (t_law_teams_x11 fd (m : Int)).1 ≤ 1000000000000) ∧ ((List.range (2 + (t_law_teams_x11 fd (m : Int)).1).toNat).map Int.ofNat).length ≤ sizeLine ∧
      preF (t_law_teams_b2 fd (m : Int)) (pre_law_teams_b2 fd (m : Int)) ((List.range (2 + (t_law_teams_x11 fd (m : Int)).1).toNat).map Int.ofNat) ((t_law_teams_x11 fd (m : Int)).2, []) ∧ pre_law_minimal (t_law_teams_l2 fd (m : Int)).2 ∧ TF (t_law_minimal (t_law_teams_l2 fd (m : Int)).2) ∧ FdOk (b + 200) (t_law_teams_l2 fd (m : Int)).1 := by
    obtain ⟨f1, f2, f3⟩ := draw_spec (l := 3) e3' (by omega) (by decide) (by decide)
    have f2' : 0 ≤ (t_law_teams_x9 fd (m : Int)).1 ∧ (t_law_teams_x9 fd (m : Int)).1 < 3 := f2
    have f3' : FdOk (b + 12) (t_law_teams_x9 fd (m : Int)).2 := f3
    obtain ⟨i1, i2, i3⟩ := draw_spec (l := 9) f3' (by omega) (by decide) (by decide)
    have i2' : 0 ≤ (t_law_teams_x11 fd (m : Int)).1 ∧ (t_law_teams_x11 fd (m : Int)).1 < 9 := i2
    have i3' : FdOk (b + 13) (t_law_teams_x11 fd (m : Int)).2 := i3
    have hr : ((List.range (2 + (t_law_teams_x11 fd (m : Int)).1).toNat).map Int.ofNat).length ≤ 10 := by simp; omega
    have hr2 : 2 ≤ ((List.range (2 + (t_law_teams_x11 fd (m : Int)).1).toNat).map Int.ofNat).length := by simp; omega
    have turns := foldl_inv (f := t_law_teams_b2 fd (m : Int)) (pre := pre_law_teams_b2 fd (m : Int)) (fun i s => FdOk (b + 13 + i * 8) s.1 ∧ s.2.length = i ∧ ∀ xs ∈ s.2, Tm xs ∧ xs ≠ []) ((List.range (2 + (t_law_teams_x11 fd (m : Int)).1).toNat).map Int.ofNat) ((t_law_teams_x11 fd (m : Int)).2, []) ⟨i3', rfl, by simp⟩ (by
      rintro i ⟨s1, s2⟩ x hx ⟨g1, g2, g3⟩
      have hi := (List.getElem?_eq_some_iff.mp hx).1
      simp only at g1 g2 g3
      have l1 := lcS_inv (f := t_law_teams_c3 fd (m : Int) (s1, s2) x) (pre := pre_law_teams_c3 fd (m : Int) (s1, s2) x) (fun j s => FdOk (b + 13 + i * 8 + j) s) pool s1 g1 (by
        intro j s y hy hI
        have hj := (List.getElem?_eq_some_iff.mp hy).1
        obtain ⟨q1, q2, q3⟩ := draw_spec (l := 1 + (1 + (t_law_teams_x9 fd (m : Int)).1)) hI (by omega) (by omega) (by omega)
        refine ⟨q1, ?_⟩
        unfold t_law_teams_c3
        split <;> exact q3)
      have l2 : (lcS (t_law_teams_c3 fd (m : Int) (s1, s2) x) pool s1).1.Sublist pool := lcS_sub (fun s y z hz => by
        unfold t_law_teams_c3 at hz
        split at hz
        · injection hz with hz; exact hz.symm
        · cases hz) pool s1
      have ed : t_law_teams_d3 fd (m : Int) (s1, s2) x = lcS (t_law_teams_c3 fd (m : Int) (s1, s2) x) pool s1 := by unfold t_law_teams_d3; rw [hpool]
      refine ⟨⟨⟨by rw [hpool]; exact tp.line, by rw [hpool]; exact l1.1⟩, lt_line (by show s2.length < _; omega)⟩, ?_, ?_, ?_⟩
      · show FdOk _ (t_law_teams_d3 fd (m : Int) (s1, s2) x).2
        rw [ed]
        exact l1.2.mono (by omega)
      · show (s2 ++ [_]).length = i + 1
        rw [List.length_append, List.length_singleton, g2]
      · intro xs hxs
        rcases List.mem_append.mp hxs with hxs | hxs
        · exact g3 xs hxs
        · rw [List.mem_singleton.mp hxs]
          split
          · rename_i hc
            rw [ed] at hc ⊢
            exact ⟨tp.of l2, by simpa using hc⟩
          · rw [hpool, cutE_to (j := 1) (by decide)]
            refine ⟨tp.of (List.take_sublist _ _), fun z => ?_⟩
            have := congrArg List.length z
            rw [List.length_take, List.length_nil] at this
            have e1 : (1 : Int).toNat = 1 := rfl
            omega)
    obtain ⟨t1, t2, t3, t4⟩ := turns
    have el : ((List.range (2 + (t_law_teams_x11 fd (m : Int)).1).toNat).map Int.ofNat).foldl (t_law_teams_b2 fd (m : Int)) ((t_law_teams_x11 fd (m : Int)).2, []) = t_law_teams_l2 fd (m : Int) := rfl
    rw [el] at t2 t3 t4
    obtain ⟨m1, m2⟩ := minimal_spec (sets := (t_law_teams_l2 fd (m : Int)).2) (by omega) t4 (fun z => by rw [z, List.length_nil] at t3; omega)
    exact ⟨f1, ⟨i1, by omega, by omega⟩, le_line (by omega), t1, m1, m2, t2.mono (by omega)⟩
  refine ⟨?_, ?_, ?_⟩
  · unfold pre_law_teams
    rw [hpool]
    exact ⟨w1, d1, e1, fun _ => ⟨caseA.1, caseA.2.1⟩, fun _ => ⟨caseB.1, ⟨caseB.2.1, caseB.2.2.1, caseB.2.2.2.1⟩, caseB.2.2.2.2.1⟩⟩
  · unfold t_law_teams
    rw [hpool]
    split
    · exact caseA.2.2.1
    · exact caseB.2.2.2.2.2.1
  · unfold t_law_teams
    split
    · exact caseA.2.2.2.mono (by omega)
    · exact caseB.2.2.2.2.2.2
/-! the people -/
theorem folk_spec {NM : List Str} {xss : List (List Str)} (g : TB NM xss) : pre_law_folk xss ∧ (∀ x, x ∈ t_law_folk xss ↔ x ∈ xss.flatten) ∧ (t_law_folk xss).Nodup := by
  have small : ∀ {ks : List Str}, ks.Nodup → (∀ k ∈ ks, k ∈ NM) → ks.length ≤ 60 := fun {ks} hn hs => Nat.le_trans (List.Nodup.length_le_of_subset hn hs) g.nm.1
  have main := foldl_inv (f := t_law_folk_b1 xss) (pre := pre_law_folk_b1 xss) (fun i s => (s.map (·.1)).Nodup ∧ (∀ x, x ∈ s.map (·.1) ↔ x ∈ (xss.take i).flatten)) xss [] ⟨by simp, by simp⟩ (by
    rintro i s team hx ⟨g1, g2⟩
    have htm := List.mem_of_getElem? hx
    have tt := g.tm team htm
    have inn := foldl_inv (f := t_law_folk_b2 xss s team) (pre := pre_law_folk_b2 xss s team) (fun j r => (r.map (·.1)).Nodup ∧ (∀ x, x ∈ r.map (·.1) ↔ x ∈ (xss.take i).flatten ∨ x ∈ team.take j)) team s ⟨g1, by simpa using g2⟩ (by
      rintro j r nm hy ⟨h1, h2⟩
      have hsub : ∀ k ∈ r.map (·.1), k ∈ NM := fun k hk => by
        rcases (h2 k).mp hk with h | h
        · obtain ⟨xs, e1, e2⟩ := List.mem_flatten.mp h
          exact (g.tm xs (List.mem_of_mem_take e1)).2 k e2
        · exact tt.2 k (List.mem_of_mem_take h)
      have hlen := small h1 hsub
      rw [List.length_map] at hlen
      refine ⟨lt_line (by omega), ?_, fun x => ?_⟩
      · show ((dput r nm true).map (·.1)).Nodup
        rw [dput_keys]
        split
        · exact h1
        · rename_i hn
          rw [List.nodup_append]
          exact ⟨h1, by simp, fun a ha b hb e => hn (by rw [List.mem_singleton.mp hb] at e; exact e ▸ ha)⟩
      · show x ∈ (dput r nm true).map (·.1) ↔ _
        rw [dput_keys, List.take_add_one, hy]
        have e : x ∈ team.take j ++ (some nm).toList ↔ x ∈ team.take j ∨ x = nm := by simp
        rw [e]
        split
        · rename_i hn
          rw [h2]
          constructor
          · rintro (h | h)
            · exact .inl h
            · exact .inr (.inl h)
          · rintro (h | h | h)
            · exact .inl h
            · exact .inr h
            · subst h; exact (h2 x).mp hn
        · rw [List.mem_append, h2, List.mem_singleton, or_assoc])
    refine ⟨⟨le_line (by have := tt.1; omega), inn.1⟩, inn.2.1, fun x => ?_⟩
    show x ∈ (t_law_folk_l2 xss s team).map (·.1) ↔ _
    have := inn.2.2 x
    rw [List.take_length] at this
    rw [List.take_add_one, hx, List.flatten_append, List.mem_append]
    refine this.trans ?_
    simp)
  obtain ⟨m1, m2, m3⟩ := main
  rw [List.take_length] at m3
  have el : xss.foldl (t_law_folk_b1 xss) [] = t_law_folk_l1 xss := rfl
  rw [el] at m2 m3
  have hsub : ∀ k ∈ (t_law_folk_l1 xss).map (·.1), k ∈ NM := fun k hk => g.mem ((m3 k).mp hk)
  have hl := small m2 hsub
  rw [List.length_map] at hl
  refine ⟨⟨⟨g.line, m1⟩, by omega, fun kv hkv => ?_⟩, fun x => ?_, ?_⟩
  · have := (g.nm.2 kv.1 (hsub _ (List.mem_map.mpr ⟨kv, hkv, rfl⟩))).1
    omega
  · unfold t_law_folk
    rw [mem_srtE]; exact m3 x
  · unfold t_law_folk
    rw [srtE_nodup]; exact m2
/-- names of the list, sorted, each once, are a team -/
theorem tm_of {xs : List Str} (hn : xs.Nodup) (hs : ∀ x ∈ xs, x ∈ NM8) : Tm (srtE eStr xs) := by
  have e : srtE eStr xs = NM8.filter fun x => decide (x ∈ xs) := by
    refine List.Perm.eq_of_pairwise (fun _ _ _ _ => leE_antisymm oStr) (srtE_pw _ _) (NM8_srt.sublist List.filter_sublist) ?_
    refine (srtE_perm _ _).trans ?_
    refine (List.perm_ext_iff_of_nodup hn (NM8_nodup.sublist List.filter_sublist)).mpr fun x => ?_
    rw [List.mem_filter, decide_eq_true_eq]
    exact ⟨fun h => ⟨hs x h, h⟩, fun h => h.2⟩
  rw [e]
  exact List.filter_sublist
theorem folk_tm {xss : List (List Str)} (g : TF xss) : Tm (t_law_folk xss) := by
  obtain ⟨_, h2, h3⟩ := folk_spec g.tb
  unfold t_law_folk at h2 h3 ⊢
  refine tm_of (srtE_nodup.mp h3) fun x hx => ?_
  exact g.mem ((h2 x).mp (mem_srtE.mpr hx))
/-! the scenes -/
theorem scene_spec {b : Nat} {fd : Feed} {xss : List (List Str)} (h : FdOk b fd) (hb : b < 900000) (g : TF xss) :
    pre_law_scene fd xss ∧ ((t_law_scene fd xss).1.2 ∈ xss ∧ (t_law_scene fd xss).1.1.Sublist (t_law_folk xss) ∧ ∀ x ∈ (t_law_scene fd xss).1.2, x ∈ (t_law_scene fd xss).1.1) ∧ FdOk (b + 9) (t_law_scene fd xss).2 := by
  obtain ⟨c1, c2, c3⟩ := choice_spec h (by omega) g.ne (by have := g.few; omega)
  have c2' : (t_law_scene_x2 fd xss).1 ∈ xss := c2
  have c3' : FdOk (b + 1) (t_law_scene_x2 fd xss).2 := c3
  obtain ⟨f1, f2, f3⟩ := folk_spec g.tb
  have ft := folk_tm g
  have l1 := lcS_inv (f := t_law_scene_c1 fd xss) (pre := pre_law_scene_c1 fd xss) (fun j s => FdOk (b + 1 + j) s) (t_law_folk xss) _ c3' (by
    intro j s y hy hI
    have hj := (List.getElem?_eq_some_iff.mp hy).1
    have := ft.len
    obtain ⟨q1, q2, q3⟩ := draw_spec (l := 4) hI (by omega) (by decide) (by decide)
    have e : FdOk (b + 1 + (j + 1)) (t_law_scene_x4 fd xss s y).2 := by
      unfold t_law_scene_x4
      split
      · exact hI.mono (by omega)
      · exact q3
    refine ⟨fun _ => q1, ?_⟩
    unfold t_law_scene_c1
    split <;> exact e)
  have l2 : (lcS (t_law_scene_c1 fd xss) (t_law_folk xss) (t_law_scene_x2 fd xss).2).1.Sublist (t_law_folk xss) := lcS_sub (fun s y z hz => by
    unfold t_law_scene_c1 at hz
    split at hz
    · injection hz with hz; exact hz.symm
    · cases hz) _ _
  have l3 : ∀ (ys : List Str) (s : Feed) (x : Str), x ∈ ys → x ∈ (t_law_scene_x2 fd xss).1 → x ∈ (lcS (t_law_scene_c1 fd xss) ys s).1 := by
    intro ys
    induction ys with
    | nil => intro s x hx; cases hx
    | cons y ys ih =>
      intro s x hx hm
      rw [lcS_cons]
      rcases List.mem_cons.mp hx with rfl | hx
      · have e : t_law_scene_c1 fd xss s x = (some x, s) := by
          unfold t_law_scene_c1 t_law_scene_x4
          rw [decide_eq_true hm]; rfl
        rw [e]
        exact List.mem_cons_self
      · unfold t_law_scene_c1
        split
        · rename_i z s' _
          exact List.mem_cons_of_mem _ (ih s' x hx hm)
        · rename_i s' _
          exact ih s' x hx hm
  refine ⟨⟨c1, f1, ft.line, l1.1⟩, ⟨c2', l2, fun x hx => l3 _ _ x ?_ hx⟩, l1.2.mono (by have := ft.len; omega)⟩
  exact (f2 x).mpr (List.mem_flatten.mpr ⟨_, c2', hx⟩)
end Fz

set_option Elab.async false
set_option linter.all false
set_option maxRecDepth 100000
namespace Fz
open PySem PySem.Spec PyProof.Rows L2 Cb
theorem subset_spec {b : Nat} {fd : Feed} {xs : List Str} (h : FdOk b fd) (hb : b < 900000) (hl : xs.length ≤ 60) : pre_law_subset fd xs ∧ (t_law_subset fd xs).1.Sublist xs ∧ FdOk (b + xs.length) (t_law_subset fd xs).2 := by
  have l1 := lcS_inv (f := t_law_subset_c1 fd xs) (pre := pre_law_subset_c1 fd xs) (fun j s => FdOk (b + j) s) xs fd h (by
    intro j s y hy hI
    have hj := (List.getElem?_eq_some_iff.mp hy).1
    obtain ⟨q1, q2, q3⟩ := draw_spec (l := 2) hI (by omega) (by decide) (by decide)
    refine ⟨q1, ?_⟩
    unfold t_law_subset_c1
    split <;> exact q3)
  have l2 : (lcS (t_law_subset_c1 fd xs) xs fd).1.Sublist xs := lcS_sub (fun s y z hz => by
    unfold t_law_subset_c1 at hz
    split at hz
    · injection hz with hz; exact hz.symm
    · cases hz) _ _
  exact ⟨⟨le_line (by omega), l1.1⟩, l2, l1.2⟩
end Fz

set_option Elab.async false
set_option linter.all false
set_option maxRecDepth 100000
namespace Fz
open PySem PySem.Spec PyProof.Rows L2 Cb
section
variable {NM : List Str} {xss : List (List Str)} {ps gone : List Str}
def Few (gone : List Str) : Prop := gone.length = 0 ∨ gone.length = 1 ∨ gone.length = 2 ∨ gone.length = 3 ∨ gone.length = 4 ∨ gone.length = 8
theorem Few.le {gone : List Str} (h : Few gone) : gone.length ≤ 8 := by unfold Few at h; omega
theorem left_eq' : t_law_left xss ps = t_left_in xss ps := by
  unfold t_law_left t_left_in
  refine List.filter_congr fun a _ => ?_
  rw [Bool.eq_iff_iff, is_part_iff, List.all_map, List.all_eq_true]
  simp
theorem told_eq (h : Few gone) : t_law_told xss ps gone = some (t_after xss ps gone) := by
  match gone, h with
  | [], _ => simp [t_law_told]
  | [a], _ => rfl
  | [a, b], _ => rfl
  | [a, b, c], _ => rfl
  | [a, b, c, d], _ => rfl
  | [a, b, c, d, e, f, g, i], _ => rfl
theorem told_pre (h : Few gone) (hp : pre_after xss ps gone) (hr : reprOk ((ePr (eTu eStr) (eTu (eTu eStr))).f (t_after xss ps gone)) = true) : pre_law_told xss ps gone := by
  match gone, h with
  | [], _ => exact ⟨fun _ => ⟨hp, ⟨hp, hr⟩, hr⟩, (fun z => by cases z)⟩
  | [a], _ => exact ⟨(fun z => by cases z), fun _ => ⟨fun _ => ⟨rfl, hp⟩, (fun z => by cases z)⟩⟩
  | [a, b], _ => exact ⟨(fun z => by cases z), fun _ => ⟨(fun z => by cases z), fun _ => ⟨fun _ => ⟨rfl, rfl, hp⟩, (fun z => by cases z)⟩⟩⟩
  | [a, b, c], _ => exact ⟨(fun z => by cases z), fun _ => ⟨(fun z => by cases z), fun _ => ⟨(fun z => by cases z), fun _ => ⟨fun _ => ⟨rfl, rfl, rfl, hp⟩, (fun z => by cases z)⟩⟩⟩⟩
  | [a, b, c, d], _ => exact ⟨(fun z => by cases z), fun _ => ⟨(fun z => by cases z), fun _ => ⟨(fun z => by cases z), fun _ => ⟨(fun z => by cases z), fun _ => ⟨fun _ => ⟨rfl, rfl, rfl, rfl, hp⟩, (fun z => by cases z)⟩⟩⟩⟩⟩
  | [a, b, c, d, e, f, g, i], _ => exact ⟨(fun z => by cases z), fun _ => ⟨(fun z => by cases z), fun _ => ⟨(fun z => by cases z), fun _ => ⟨(fun z => by cases z), fun _ => ⟨(fun z => by cases z), fun _ => ⟨rfl, rfl, rfl, rfl, rfl, rfl, rfl, rfl, hp⟩⟩⟩⟩⟩⟩
theorem used_eq (h : Few gone) : t_law_agrees_2_x1 xss ps gone = gone := by
  have hl := h.le
  unfold t_law_agrees_2_x1
  unfold Few at h
  split
  · rename_i hc
    rw [decide_eq_true_eq] at hc
    rw [cutE_to (j := 4) (by decide), List.take_of_length_le (by show gone.length ≤ 4; omega)]
  · rw [cutE_to (j := 8) (by decide), List.take_of_length_le (by show gone.length ≤ 8; omega)]
theorem rest_eq (h : Few gone) : t_law_agrees_2_x2 xss ps gone = t_present_without ps gone := by
  unfold t_law_agrees_2_x2 t_present_without
  rw [used_eq h]
theorem agrees19 (g : TB NM xss) (hp : ps.length ≤ 20 ∧ ∀ x ∈ ps, x ∈ xss.flatten) (h : Few gone) (hg : ∀ x ∈ gone, x ∈ xss.flatten) : pre_law_agrees_2 xss ps gone ∧ t_law_agrees_2 xss ps gone = true := by
  have hl := h.le
  have hps : ∀ x ∈ ps, Nms x := fun x hx => g.nm.2 x (g.mem (hp.2 x hx))
  have sp : Shw ((eTu eStr).f ps) 180 := shw_nms hp.1 hps
  have sw : Shw ((eTu eStr).f (t_present_without ps gone)) 180 := shw_nms (Nat.le_trans without_sub.length_le hp.1) fun x hx => hps x (without_sub.subset hx)
  have sl : Shw ((eTu (eTu eStr)).f (t_left_in xss (t_present_without ps gone))) 18100 := (g.sub left_sub).shw
  have r0 : reprOk ((ePr (eTu (eTu eStr)) (eTu eStr)).f (xss, ps)) = true := reprOk_shw (ePr (eTu (eTu eStr)) (eTu eStr)) (by decide) (shw_t2 g.shw sp) (by decide)
  have r1 : reprOk ((ePr (eTu eStr) (eTu (eTu eStr))).f (t_after xss ps gone)) = true := reprOk_shw (ePr (eTu eStr) (eTu (eTu eStr))) (by decide) (shw_t2 sw sl) (by decide)
  have pa : pre_after xss ps gone := ⟨require_ok g (le_small (k := 2) rfl (by decide)) (fun lot hlot => by
    simp only [List.cons_append, List.nil_append, List.mem_cons, List.not_mem_nil, or_false] at hlot
    rcases hlot with rfl | rfl
    · exact ⟨le_line (by omega), hp.2⟩
    · exact ⟨le_line (by omega), hg⟩), ⟨le_line (by omega), le_line (by omega)⟩, left_pre g⟩
  have e1 := told_eq (xss := xss) (ps := ps) h
  have p1 := told_pre h pa r1
  refine ⟨?_, ?_⟩
  · unfold pre_law_agrees_2
    rw [rest_eq h, left_eq', e1]
    exact ⟨le_line (by omega), ⟨r0, ⟨g.line, g.tline⟩, r1⟩, ⟨p1, r1⟩, fun _ => r0⟩
  · unfold t_law_agrees_2
    rw [rest_eq h, left_eq', e1]
    show (decide (_ = _) && decide (_ = _)) = true
    simp [t_after]
end
theorem draw_rng {fd : Feed} {l : Int} (h0 : 0 < l) : 0 ≤ (t_law_draw fd l).1 ∧ (t_law_draw fd l).1 < l := by
  unfold t_law_draw
  split
  · exact ⟨Int.emod_nonneg _ (by omega), Int.emod_lt_of_pos _ h0⟩
  · split
    · exact ⟨Int.emod_nonneg _ (by omega), Int.emod_lt_of_pos _ h0⟩
    · exact ⟨Int.emod_nonneg _ (by omega), Int.emod_lt_of_pos _ h0⟩
theorem choice_mem2 {fd : Feed} {xs : List Str} (hx : xs ≠ []) : (t_law_choice_i2 fd xs).1 ∈ xs := by
  have hp := List.length_pos_iff.mpr hx
  have h2 := draw_rng (fd := fd) (l := (xs.length : Int)) (by omega)
  exact ixE_mem h2.1 h2.2
theorem law19_ok (ns : List Int) : pre_law_2 ns ∧ t_law_2 ns = true := by
  have main := forR_inv (f := t_law_2_b1 ns) (pre := pre_law_2_b1 ns) (fun i fd => FdOk (i * 1000) fd) ((List.range (6 : Int).toNat).map Int.ofNat) (t_law_feed ns) ⟨Int.le_refl 0, Int.le_refl 0, by show (0 : Int) ≤ _; omega⟩ (by
    intro i fd att hi hI
    have hi' := (getElem?_range_int hi).2
    have e6 : (6 : Int).toNat = 6 := rfl
    obtain ⟨p1, tf, d1⟩ := teams_spec (m := 8) hI (by omega) (by decide) (by decide)
    have p1' : pre_law_teams fd (8 : Int) := p1
    have tf' : TF (t_law_2_x5 ns fd att).1 := tf
    have d1' : FdOk (i * 1000 + 200) (t_law_2_x5 ns fd att).2 := d1
    have tb := tf'.tb
    obtain ⟨fk1, fk2, fk3⟩ := folk_spec tb
    have ft := folk_tm tf'
    have fl := ft.len
    have fne : t_law_folk (t_law_2_x5 ns fd att).1 ≠ [] := by
      obtain ⟨xs, hxs⟩ := List.exists_mem_of_ne_nil _ tf'.ne
      obtain ⟨x, hx⟩ := List.exists_mem_of_ne_nil _ (tf'.tm xs hxs).2
      intro z
      have := (fk2 x).mpr (List.mem_flatten.mpr ⟨xs, hxs, hx⟩)
      rw [z] at this; cases this
    obtain ⟨q1, ⟨q2, q3, q4⟩, q5⟩ := scene_spec d1' (by omega) tf'
    have q3' : (t_law_2_x7 ns fd att).1.1.Sublist (t_law_folk (t_law_2_x5 ns fd att).1) := q3
    have q5' : FdOk (i * 1000 + 200 + 9) (t_law_2_x7 ns fd att).2 := q5
    obtain ⟨s1, s2, s3⟩ := subset_spec (xs := t_law_folk (t_law_2_x5 ns fd att).1) q5' (by omega) (by omega)
    have s2' : (t_law_2_x8 ns fd att).1.Sublist (t_law_folk (t_law_2_x5 ns fd att).1) := s2
    have s3' : FdOk (i * 1000 + 300) (t_law_2_x8 ns fd att).2 := s3.mono (by omega)
    have hsub : ∀ {ps : List Str}, ps.Sublist (t_law_folk (t_law_2_x5 ns fd att).1) → ps.length ≤ 20 ∧ ∀ x ∈ ps, x ∈ (t_law_2_x5 ns fd att).1.flatten := fun {ps} h => ⟨by have := h.length_le; omega, fun x hx => (fk2 x).mp (h.subset hx)⟩
    have inner := forR_inv (f := t_law_2_b2 ns fd att) (pre := pre_law_2_b2 ns fd att) (fun j fd => FdOk (i * 1000 + 300 + j * 50) fd) [(t_law_folk (t_law_2_x5 ns fd att).1), [], (t_law_2_x7 ns fd att).1.1, (t_law_2_x8 ns fd att).1] (t_law_2_x8 ns fd att).2 (by simpa using s3') (by
      intro j fd2 here hj hJ
      have hj' := (List.getElem?_eq_some_iff.mp hj).1
      simp only [List.length_cons, List.length_nil] at hj'
      have hh : here.Sublist (t_law_folk (t_law_2_x5 ns fd att).1) := by
        have hm := List.mem_of_getElem? hj
        simp only [List.mem_cons, List.not_mem_nil, or_false] at hm
        rcases hm with rfl | rfl | rfl | rfl
        · exact List.Sublist.refl _
        · exact List.nil_sublist _
        · exact q3'
        · exact s2'
      have hp := hsub hh
      have turn := forR_inv (f := t_law_2_b3 ns fd att fd2 here) (pre := pre_law_2_b3 ns fd att fd2 here) (fun k fd => FdOk (i * 1000 + 300 + j * 50 + k * 8) fd) [(0 : Int), (1 : Int), (2 : Int), (3 : Int), (4 : Int), (8 : Int)] fd2 (by simpa using hJ) (by
        intro k fd3 many hk hK
        have hk' := (List.getElem?_eq_some_iff.mp hk).1
        simp only [List.length_cons, List.length_nil] at hk'
        have hm : many = 0 ∨ many = 1 ∨ many = 2 ∨ many = 3 ∨ many = 4 ∨ many = 8 := by
          have := List.mem_of_getElem? hk
          simpa using this
        have l1 := lcS_inv (f := t_law_2_c4 ns fd att fd2 here fd3 many) (pre := pre_law_2_c4 ns fd att fd2 here fd3 many) (fun m s => FdOk (i * 1000 + 300 + j * 50 + k * 8 + m) s) ((List.range many.toNat).map Int.ofNat) fd3 hK (by
          intro m s y hy hI2
          have hm2 := (getElem?_range_int hy).2
          obtain ⟨c1, c2, c3⟩ := choice_spec2 hI2 (by omega) fne (by omega)
          exact ⟨c1, c3⟩)
        have l2 : ∀ y ∈ (t_law_2_d4 ns fd att fd2 here fd3 many).1, y ∈ (t_law_2_x5 ns fd att).1.flatten := lcS_all (fun s => True) _ (fun s x _ hs => ⟨trivial, fun y hy => by
          have e : (t_law_choice_i2 s (t_law_folk (t_law_2_x5 ns fd att).1)).1 = y := Option.some.inj hy
          exact e ▸ (fk2 _).mp (choice_mem2 fne)⟩) fd3 trivial
        have l3 : (t_law_2_d4 ns fd att fd2 here fd3 many).1.length = many.toNat := by
          have := lcS_len (f := t_law_2_c4 ns fd att fd2 here fd3 many) (fun s x => rfl) ((List.range many.toNat).map Int.ofNat) fd3
          rw [List.length_map, List.length_range] at this
          exact this
        have few : Few (t_law_2_d4 ns fd att fd2 here fd3 many).1 := by
          unfold Few
          rw [l3]
          rcases hm with rfl | rfl | rfl | rfl | rfl | rfl <;> decide
        obtain ⟨a1, a2⟩ := agrees19 tb hp few l2
        have l1' : FdOk (i * 1000 + 300 + j * 50 + (k + 1) * 8) (t_law_2_d4 ns fd att fd2 here fd3 many).2 := by
          have := l1.2
          rw [List.length_map, List.length_range] at this
          exact FdOk.mono this (by rcases hm with rfl | rfl | rfl | rfl | rfl | rfl <;> simp <;> omega)
        have hml : ((List.range many.toNat).map Int.ofNat).length ≤ sizeLine := by
          rw [List.length_map, List.length_range]
          exact le_line (by omega)
        refine ⟨⟨⟨⟨by omega, by omega⟩, hml, l1.1⟩, a1⟩, (t_law_2_d4 ns fd att fd2 here fd3 many).2, ?_, l1'⟩
        unfold t_law_2_b3
        rw [a2]; rfl)
      obtain ⟨t1, fd3, t2, t3⟩ := turn
      have t3' : FdOk (i * 1000 + 300 + (j + 1) * 50) fd3 := t3.mono (by simp; omega)
      have c1 : cutE (t_law_folk (t_law_2_x5 ns fd att).1) none (some (4 : Int)) = (t_law_folk (t_law_2_x5 ns fd att).1).take 4 := cutE_to (j := 4) (by decide)
      have c2 : cutE (t_law_folk (t_law_2_x5 ns fd att).1).reverse none (some (3 : Int)) = (t_law_folk (t_law_2_x5 ns fd att).1).reverse.take 3 := cutE_to (j := 3) (by decide)
      have few1 : Few (cutE (t_law_folk (t_law_2_x5 ns fd att).1) none (some (4 : Int))) := by
        unfold Few
        rw [c1, List.length_take]
        omega
      have few2 : Few (cutE (t_law_folk (t_law_2_x5 ns fd att).1).reverse none (some (3 : Int))) := by
        unfold Few
        rw [c2, List.length_take]
        omega
      obtain ⟨u1, u2⟩ := agrees19 tb hp few1 (by
        rw [c1]
        exact fun x hx => (fk2 x).mp (List.mem_of_mem_take hx))
      obtain ⟨v1, v2⟩ := agrees19 tb hp few2 (by
        rw [c2]
        exact fun x hx => (fk2 x).mp (List.mem_reverse.mp (List.mem_of_mem_take hx)))
      refine ⟨⟨le_small (k := 6) rfl (by decide), t1, fun s3 _ => ⟨u1, fun _ => v1⟩⟩, fd3, ?_, t3'⟩
      unfold t_law_2_b2 t_law_2_l3
      rw [t2]
      show (if _ then _ else _) = _
      rw [u2, v2]; rfl)
    obtain ⟨i1, fd4, i2, i3⟩ := inner
    refine ⟨⟨p1', fk1, ⟨q1, s1⟩, le_small (k := 4) rfl (by decide), i1⟩, fd4, ?_, i3.mono (by simp; omega)⟩
    unfold t_law_2_b1 t_law_2_l2
    rw [i2]; rfl)
  obtain ⟨m1, s1, m2, _⟩ := main
  refine ⟨⟨⟨by decide, by decide⟩, by decide, m1⟩, ?_⟩
  unfold t_law_2 t_law_2_l1
  rw [m2]; rfl
theorem law19_math (ns : List Int) (_ : ns.length ≤ 63) : ∃ M', fs_law_2 [.frz (ns.map .int)] [] = .ok (.d (.p (.bool true))) M' := fs_true (eq_law_2 ns (law19_ok ns).1) (law19_ok ns).2
end Fz

set_option Elab.async false
set_option linter.all false
set_option maxRecDepth 100000
namespace LK19
open PySem PySem.Spec PyProof.Rows L2 Cb
def topS (i : Nat) : Stmt := PySem.Challenge.pw_crewbook_k19_several_losses.main.body.getD i (.Pass ⟨0, 0, 0, 0⟩)
abbrev s__law_feed : Stmt := topS 12
abbrev s__law_is_part : Stmt := topS 17
abbrev s__law_minimal : Stmt := topS 18
abbrev s__law_draw : Stmt := topS 13
abbrev s__law_sets_of : Stmt := topS 19
abbrev s__law_choice : Stmt := topS 14
abbrev s__law_teams : Stmt := topS 20
abbrev s__law_folk : Stmt := topS 16
abbrev s__law_subset : Stmt := topS 15
abbrev s__law_scene : Stmt := topS 21
abbrev s__law_left : Stmt := topS 22
abbrev s_people_of : Stmt := topS 5
abbrev s_require_people : Stmt := topS 6
abbrev s_present_without : Stmt := topS 9
abbrev s_left_in : Stmt := topS 7
abbrev s_after : Stmt := topS 10
abbrev s__law_told : Stmt := topS 23
abbrev s__law_agrees : Stmt := topS 24
abbrev s_law : Stmt := topS 25
structure LF (Z : Wd) where
  f__law_feed : Addr
  fd__law_feed : FuncData
  F__law_feed : DefAt Z "_law_feed" s__law_feed f__law_feed fd__law_feed
  f__law_is_part : Addr
  fd__law_is_part : FuncData
  F__law_is_part : DefAt Z "_law_is_part" s__law_is_part f__law_is_part fd__law_is_part
  f__law_minimal : Addr
  fd__law_minimal : FuncData
  F__law_minimal : DefAt Z "_law_minimal" s__law_minimal f__law_minimal fd__law_minimal
  f__law_draw : Addr
  fd__law_draw : FuncData
  F__law_draw : DefAt Z "_law_draw" s__law_draw f__law_draw fd__law_draw
  f__law_sets_of : Addr
  fd__law_sets_of : FuncData
  F__law_sets_of : DefAt Z "_law_sets_of" s__law_sets_of f__law_sets_of fd__law_sets_of
  f__law_choice : Addr
  fd__law_choice : FuncData
  F__law_choice : DefAt Z "_law_choice" s__law_choice f__law_choice fd__law_choice
  f__law_teams : Addr
  fd__law_teams : FuncData
  F__law_teams : DefAt Z "_law_teams" s__law_teams f__law_teams fd__law_teams
  f__law_folk : Addr
  fd__law_folk : FuncData
  F__law_folk : DefAt Z "_law_folk" s__law_folk f__law_folk fd__law_folk
  f__law_subset : Addr
  fd__law_subset : FuncData
  F__law_subset : DefAt Z "_law_subset" s__law_subset f__law_subset fd__law_subset
  f__law_scene : Addr
  fd__law_scene : FuncData
  F__law_scene : DefAt Z "_law_scene" s__law_scene f__law_scene fd__law_scene
  f__law_left : Addr
  fd__law_left : FuncData
  F__law_left : DefAt Z "_law_left" s__law_left f__law_left fd__law_left
  f_people_of : Addr
  fd_people_of : FuncData
  F_people_of : DefAt Z "people_of" s_people_of f_people_of fd_people_of
  f_require_people : Addr
  fd_require_people : FuncData
  F_require_people : DefAt Z "require_people" s_require_people f_require_people fd_require_people
  f_present_without : Addr
  fd_present_without : FuncData
  F_present_without : DefAt Z "present_without" s_present_without f_present_without fd_present_without
  f_left_in : Addr
  fd_left_in : FuncData
  F_left_in : DefAt Z "left_in" s_left_in f_left_in fd_left_in
  f_after : Addr
  fd_after : FuncData
  F_after : DefAt Z "after" s_after f_after fd_after
  f__law_told : Addr
  fd__law_told : FuncData
  F__law_told : DefAt Z "_law_told" s__law_told f__law_told fd__law_told
  f__law_agrees : Addr
  fd__law_agrees : FuncData
  F__law_agrees : DefAt Z "_law_agrees" s__law_agrees f__law_agrees fd__law_agrees
  f_law : Addr
  fd_law : FuncData
  F_law : DefAt Z "law" s_law f_law fd_law
  z_all : Z.mg "all" = none
  z_len : Z.mg "len" = none
  z_list : Z.mg "list" = none
  z_min : Z.mg "min" = none
  z_range : Z.mg "range" = none
  z_repr : Z.mg "repr" = none
  z_set : Z.mg "set" = none
  z_sorted : Z.mg "sorted" = none
  z_tuple : Z.mg "tuple" = none
theorem sc__law_feed : FnScope ["_law_script"] ["_law_script"] (defScope s__law_feed) := ⟨rfl, rfl, rfl, by decide +kernel, rfl, by decide +kernel, by decide +kernel⟩
theorem F__law_feed {Z : Wd} (D : LF Z) : FnG Z 1 D.f__law_feed D.fd__law_feed ["_law_script"] Fz.fs_law_feed :=
  def_ok (N := ["_law_script"]) (U := [0]) (χ := Fz.φ_law_feed) D.F__law_feed sc__law_feed fun X E g =>
    bd_one (sd_ret (pd_lst (ad_cons rfl (b_list g.toGd D.z_list rfl (ad_cons rfl (pd_slice (g_var g.toGd rfl rfl rfl rfl) (od_none) (od_some (pd_int))) (ad_nil)) rfl) (ad_cons rfl (pd_int) (ad_cons rfl (pd_int) (ad_cons rfl (pd_int) (ad_nil)))))))
theorem B10 {Z : Wd} (D : LF Z) : BindsG Z.K D.fd__law_feed ["_law_script"] 1 [] [.at 0] := binds_pos D.F__law_feed rfl (fun us hl => match us, hl with | [a0], _ => rfl) (by simp) fun _ _ _ _ _ _ us hl => match us, hl with | [a0], _ => rfl
theorem sc__law_is_part : FnScope ["_law_some", "_law_others", "_law_one"] ["_law_some", "_law_others"] (defScope s__law_is_part) := ⟨rfl, rfl, rfl, by decide +kernel, rfl, by decide +kernel, by decide +kernel⟩
theorem F__law_is_part {Z : Wd} (D : LF Z) : FnG Z 1 D.f__law_is_part D.fd__law_is_part ["_law_some", "_law_others"] Fz.fs_law_is_part :=
  def_ok (N := ["_law_some", "_law_others", "_law_one"]) (U := [0, 1, 2]) (χ := Fz.φ_law_is_part) D.F__law_is_part sc__law_is_part fun X E g =>
    bd_one (sd_ret (pd_cmp (cmpG_ok g.toGd.ok .Eq) (g_lc (own := [("_law_one", 2)]) g.toGd (id_val (g_var g.toGd rfl rfl rfl rfl)) (by decide +kernel) (fun X1 g1 => g_nmB g1 (by decide) rfl rfl) (fun X1 g1 => if_one (td_cmp (cmpG_ok g1.toGd.ok .NotIn) (g_var g1.toGd rfl rfl rfl rfl) (g_var g1.toGd rfl rfl rfl rfl) rfl)) (fun X1 g1 => g_var g1.toGd rfl rfl rfl rfl) (fun _ => rfl)) (pd_lst (ad_nil)) rfl))
theorem B0 {Z : Wd} (D : LF Z) : BindsG Z.K D.fd__law_is_part ["_law_some", "_law_others"] 2 [] [.at 0, .at 1] := binds_pos D.F__law_is_part rfl (fun us hl => match us, hl with | [a0, a1], _ => rfl) (by simp) fun _ _ _ _ _ _ us hl => match us, hl with | [a0, a1], _ => rfl
theorem sc__law_minimal : FnScope ["_law_sets", "_law_found", "_law_some", "_law_one"] ["_law_sets"] (defScope s__law_minimal) := ⟨rfl, rfl, rfl, by decide +kernel, rfl, by decide +kernel, by decide +kernel⟩
theorem F__law_minimal {Z : Wd} (D : LF Z) : FnG Z 2 D.f__law_minimal D.fd__law_minimal ["_law_sets"] Fz.fs_law_minimal :=
  def_ok (N := ["_law_sets", "_law_found", "_law_some", "_law_one"]) (U := [0, 1, 2, 3]) (χ := Fz.φ_law_minimal) D.F__law_minimal sc__law_minimal fun X E g =>
    bd_cons (g_set g (by decide) rfl rfl (pd_al (pd_lst (ad_nil))) (fun _ => rfl))
    (bd_cons (sd_pre [2] (g_for g (id_val (b_srtLen g.toGd D.z_sorted rfl D.z_len rfl (b_srtSet g.toGd D.z_sorted rfl D.z_set rfl (g_var g.toGd rfl rfl rfl rfl) rfl) rfl)) (g_nm g (by decide) rfl rfl)
    (bd_wp [2] (bd_one (sd_if (td_cmp (cmpG_ok g.toGd.ok .Eq) (g_lc (own := [("_law_one", 3)]) g.toGd (id_val (g_var g.toGd rfl rfl rfl rfl)) (by decide +kernel) (fun X1 g1 => g_nmB g1 (by decide) rfl rfl) (fun X1 g1 => if_one (td_val (pd_callU g1.toGd ((F__law_is_part D).mono (by decide)) (B0 D) (gl_of g1.toGd rfl) D.F__law_is_part.mg D.F__law_is_part.fn.kp rfl (ad_cons rfl (g_var g1.toGd rfl rfl rfl rfl) (ad_cons rfl (g_var g1.toGd rfl rfl rfl rfl) (ad_nil))) rfl) (fun _ => rfl))) (fun X1 g1 => g_var g1.toGd rfl rfl rfl rfl) (fun _ => rfl)) (pd_lst (ad_nil)) rfl)
    (bd_one (sd_expr (m_append (g_var g.toGd rfl rfl rfl rfl) (ad_cons rfl (g_var g.toGd rfl rfl rfl rfl) (ad_nil)) rfl rfl rfl) rfl))
    (bd_nil))))
    (bd_nil) (fun _ => rfl)))
    (bd_fr 1 (bd_one (sd_ret (b_tuple g.toGd D.z_tuple rfl (ad_cons rfl (b_sortedU g.toGd D.z_sorted rfl (ad_cons rfl (pd_slice (g_var g.toGd rfl rfl rfl rfl) (od_none) (od_some (pd_int))) (ad_nil)) rfl) (ad_nil)) rfl)))))
theorem B4 {Z : Wd} (D : LF Z) : BindsG Z.K D.fd__law_minimal ["_law_sets"] 1 [] [.at 0] := binds_pos D.F__law_minimal rfl (fun us hl => match us, hl with | [a0], _ => rfl) (by simp) fun _ _ _ _ _ _ us hl => match us, hl with | [a0], _ => rfl
theorem sc__law_draw : FnScope ["_law_feed_here", "_law_limit", "_law_digit_now", "_law_cell", "_law_mixed"] ["_law_feed_here", "_law_limit"] (defScope s__law_draw) := ⟨rfl, rfl, rfl, by decide +kernel, rfl, by decide +kernel, by decide +kernel⟩
theorem F__law_draw {Z : Wd} (D : LF Z) : FnG Z 1 D.f__law_draw D.fd__law_draw ["_law_feed_here", "_law_limit"] Fz.fs_law_draw :=
  def_ok (N := ["_law_feed_here", "_law_limit", "_law_digit_now", "_law_cell", "_law_mixed"]) (U := [0, 1, 2, 3, 4]) (χ := Fz.φ_law_draw) D.F__law_draw sc__law_draw fun X E g =>
    bd_cons (sd_sto g.toGd.ok (g_var g.toGd rfl rfl rfl rfl) (pd_int) (pd_bin (binG_ok g.toGd.ok rfl) (pd_sub g.toGd.ok (g_var g.toGd rfl rfl rfl rfl) (pd_int) rfl) (pd_int)) rfl rfl (fun _ => rfl) rfl)
    (bd_cons (sd_if (td_cmp (cmpG_ok g.toGd.ok .Gt) (pd_sub g.toGd.ok (g_var g.toGd rfl rfl rfl rfl) (pd_int) rfl) (pd_int) rfl)
    (bd_cons (g_set g (by decide) rfl rfl (pd_bin (binG_ok g.toGd.ok rfl) (pd_sub g.toGd.ok (g_var g.toGd rfl rfl rfl rfl) (pd_int) rfl) (g_var g.toGd rfl rfl rfl rfl)) (fun _ => rfl))
    (bd_cons (sd_sto g.toGd.ok (g_var g.toGd rfl rfl rfl rfl) (pd_int) (pd_bin (binG_ok g.toGd.ok rfl) (pd_sub g.toGd.ok (g_var g.toGd rfl rfl rfl rfl) (pd_int) rfl) (g_var g.toGd rfl rfl rfl rfl)) rfl rfl (fun _ => rfl) rfl)
    (bd_one (sd_ret (g_var g.toGd rfl rfl rfl rfl)))))
    (bd_nil))
    (bd_cons (g_set g (by decide) rfl rfl (pd_if (td_cmp (cmpG_ok g.toGd.ok .NotEq) (pd_sub g.toGd.ok (g_var g.toGd rfl rfl rfl rfl) (pd_int) rfl) (pd_lst (ad_nil)) rfl) (pd_sub g.toGd.ok (pd_sub g.toGd.ok (g_var g.toGd rfl rfl rfl rfl) (pd_int) rfl) (pd_bin (binG_ok g.toGd.ok rfl) (pd_sub g.toGd.ok (g_var g.toGd rfl rfl rfl rfl) (pd_int) rfl) (b_len g.toGd D.z_len rfl (ad_cons rfl (pd_sub g.toGd.ok (g_var g.toGd rfl rfl rfl rfl) (pd_int) rfl) (ad_nil)) rfl)) rfl) (pd_int)) (fun _ => rfl))
    (bd_cons (sd_sto g.toGd.ok (g_var g.toGd rfl rfl rfl rfl) (pd_int) (pd_bin (binG_ok g.toGd.ok rfl) (pd_sub g.toGd.ok (g_var g.toGd rfl rfl rfl rfl) (pd_int) rfl) (pd_int)) rfl rfl (fun _ => rfl) rfl)
    (bd_cons (sd_if (td_bool (wd_and (td_cmp (cmpG_ok g.toGd.ok .GtE) (g_var g.toGd rfl rfl rfl rfl) (pd_bin (binG_ok g.toGd.ok rfl) (pd_int) (pd_int)) rfl) (wd_and1 (td_cmp (cmpG_ok g.toGd.ok .LtE) (pd_sub g.toGd.ok (g_var g.toGd rfl rfl rfl rfl) (pd_int) rfl) (b_len g.toGd D.z_len rfl (ad_cons rfl (pd_sub g.toGd.ok (g_var g.toGd rfl rfl rfl rfl) (pd_int) rfl) (ad_nil)) rfl) rfl))))
    (bd_cons (sd_sto g.toGd.ok (g_var g.toGd rfl rfl rfl rfl) (pd_int) (pd_bin (binG_ok g.toGd.ok rfl) (g_var g.toGd rfl rfl rfl rfl) (g_var g.toGd rfl rfl rfl rfl)) rfl rfl (fun _ => rfl) rfl)
    (bd_one (sd_ret (pd_bin (binG_ok g.toGd.ok rfl) (g_var g.toGd rfl rfl rfl rfl) (g_var g.toGd rfl rfl rfl rfl)))))
    (bd_nil))
    (bd_cons (g_set g (by decide) rfl rfl (pd_bin (binG_ok g.toGd.ok rfl) (pd_bin (binG_ok g.toGd.ok rfl) (pd_bin (binG_ok g.toGd.ok rfl) (pd_bin (binG_ok g.toGd.ok rfl) (pd_bin (binG_ok g.toGd.ok rfl) (g_var g.toGd rfl rfl rfl rfl) (pd_int)) (pd_bin (binG_ok g.toGd.ok rfl) (pd_bin (binG_ok g.toGd.ok rfl) (pd_int) (pd_sub g.toGd.ok (g_var g.toGd rfl rfl rfl rfl) (pd_int) rfl)) (pd_bin (binG_ok g.toGd.ok rfl) (pd_sub g.toGd.ok (g_var g.toGd rfl rfl rfl rfl) (pd_int) rfl) (pd_int)))) (pd_int)) (pd_int)) (pd_int)) (fun _ => rfl))
    (bd_one (sd_ret (pd_bin (binG_ok g.toGd.ok rfl) (pd_bin (binG_ok g.toGd.ok rfl) (pd_bin (binG_ok g.toGd.ok rfl) (pd_bin (binG_ok g.toGd.ok rfl) (pd_bin (binG_ok g.toGd.ok rfl) (pd_bin (binG_ok g.toGd.ok rfl) (g_var g.toGd rfl rfl rfl rfl) (pd_bin (binG_ok g.toGd.ok rfl) (pd_bin (binG_ok g.toGd.ok rfl) (pd_int) (pd_sub g.toGd.ok (g_var g.toGd rfl rfl rfl rfl) (pd_int) rfl)) (pd_int))) (pd_bin (binG_ok g.toGd.ok rfl) (pd_int) (pd_sub g.toGd.ok (g_var g.toGd rfl rfl rfl rfl) (pd_int) rfl))) (pd_int)) (pd_int)) (pd_int)) (g_var g.toGd rfl rfl rfl rfl)))))))))
theorem B1 {Z : Wd} (D : LF Z) : BindsG Z.K D.fd__law_draw ["_law_feed_here", "_law_limit"] 2 [] [.at 0, .at 1] := binds_pos D.F__law_draw rfl (fun us hl => match us, hl with | [a0, a1], _ => rfl) (by simp) fun _ _ _ _ _ _ us hl => match us, hl with | [a0, a1], _ => rfl
theorem sc__law_sets_of : FnScope ["_law_names", "_law_size", "_law_found", "_law_name", "_law_some"] ["_law_names", "_law_size"] (defScope s__law_sets_of) := ⟨rfl, rfl, rfl, by decide +kernel, rfl, by decide +kernel, by decide +kernel⟩
theorem F__law_sets_of {Z : Wd} (D : LF Z) : FnG Z 1 D.f__law_sets_of D.fd__law_sets_of ["_law_names", "_law_size"] Fz.fs_law_sets_of :=
  def_ok (N := ["_law_names", "_law_size", "_law_found", "_law_name", "_law_some"]) (U := [0, 1, 2, 3, 4]) (χ := Fz.φ_law_sets_of) D.F__law_sets_of sc__law_sets_of fun X E g =>
    bd_cons (g_set g (by decide) rfl rfl (pd_lst (ad_cons rfl (pd_tup (ad_nil)) (ad_nil))) (fun _ => rfl))
    (bd_cons (sd_pre [3] (g_for g (id_val (g_var g.toGd rfl rfl rfl rfl)) (g_nm g (by decide) rfl rfl)
    (bd_wp [3] (bd_one (g_set g (by decide) rfl rfl (pd_bin (binG_ok g.toGd.ok rfl) (g_var g.toGd rfl rfl rfl rfl) (g_lc (own := [("_law_some", 4)]) g.toGd (id_val (g_var g.toGd rfl rfl rfl rfl)) (by decide +kernel) (fun X1 g1 => g_nmB g1 (by decide) rfl rfl) (fun X1 g1 => if_one (td_cmp (cmpG_ok g1.toGd.ok .Lt) (b_len g1.toGd D.z_len rfl (ad_cons rfl (g_var g1.toGd rfl rfl rfl rfl) (ad_nil)) rfl) (g_var g1.toGd rfl rfl rfl rfl) rfl)) (fun X1 g1 => pd_bin (binG_ok g1.toGd.ok rfl) (g_var g1.toGd rfl rfl rfl rfl) (pd_tup (ad_cons rfl (g_var g1.toGd rfl rfl rfl rfl) (ad_nil)))) (fun _ => rfl))) (fun _ => rfl))))
    (bd_nil) (fun _ => rfl)))
    (bd_one (sd_ret (g_lc (own := [("_law_some", 4)]) g.toGd (id_val (g_var g.toGd rfl rfl rfl rfl)) (by decide +kernel) (fun X1 g1 => g_nmB g1 (by decide) rfl rfl) (fun X1 g1 => if_one (td_cmp (cmpG_ok g1.toGd.ok .Eq) (b_len g1.toGd D.z_len rfl (ad_cons rfl (g_var g1.toGd rfl rfl rfl rfl) (ad_nil)) rfl) (g_var g1.toGd rfl rfl rfl rfl) rfl)) (fun X1 g1 => g_var g1.toGd rfl rfl rfl rfl) (fun _ => rfl)))))
theorem B3 {Z : Wd} (D : LF Z) : BindsG Z.K D.fd__law_sets_of ["_law_names", "_law_size"] 2 [] [.at 0, .at 1] := binds_pos D.F__law_sets_of rfl (fun us hl => match us, hl with | [a0, a1], _ => rfl) (by simp) fun _ _ _ _ _ _ us hl => match us, hl with | [a0, a1], _ => rfl
theorem sc__law_choice : FnScope ["_law_feed_here", "_law_some"] ["_law_feed_here", "_law_some"] (defScope s__law_choice) := ⟨rfl, rfl, rfl, by decide +kernel, rfl, by decide +kernel, by decide +kernel⟩
theorem F__law_choice {Z : Wd} (D : LF Z) : FnG Z 2 D.f__law_choice D.fd__law_choice ["_law_feed_here", "_law_some"] Fz.fs_law_choice :=
  def_ok (N := ["_law_feed_here", "_law_some"]) (U := [0, 1]) (χ := Fz.φ_law_choice) D.F__law_choice sc__law_choice fun X E g =>
    bd_one (sd_ret (pd_sub g.toGd.ok (g_var g.toGd rfl rfl rfl rfl) (pd_callU g.toGd ((F__law_draw D).mono (by decide)) (B1 D) (gl_of g.toGd rfl) D.F__law_draw.mg D.F__law_draw.fn.kp rfl (ad_cons rfl (g_var g.toGd rfl rfl rfl rfl) (ad_cons rfl (b_len g.toGd D.z_len rfl (ad_cons rfl (g_var g.toGd rfl rfl rfl rfl) (ad_nil)) rfl) (ad_nil))) rfl) rfl))
theorem B2 {Z : Wd} (D : LF Z) : BindsG Z.K D.fd__law_choice ["_law_feed_here", "_law_some"] 2 [] [.at 0, .at 1] := binds_pos D.F__law_choice rfl (fun us hl => match us, hl with | [a0, a1], _ => rfl) (by simp) fun _ _ _ _ _ _ us hl => match us, hl with | [a0, a1], _ => rfl
theorem sc__law_teams : FnScope ["_law_feed_here", "_law_most", "_law_pool", "_law_sets", "_law_wide", "_law_k", "_law_some", "_law_name"] ["_law_feed_here", "_law_most"] (defScope s__law_teams) := ⟨rfl, rfl, rfl, by decide +kernel, rfl, by decide +kernel, by decide +kernel⟩
theorem F__law_teams {Z : Wd} (D : LF Z) : FnG Z 3 D.f__law_teams D.fd__law_teams ["_law_feed_here", "_law_most"] Fz.fs_law_teams :=
  def_ok (N := ["_law_feed_here", "_law_most", "_law_pool", "_law_sets", "_law_wide", "_law_k", "_law_some", "_law_name"]) (U := [0, 1, 2, 3, 4, 5, 6, 7]) (χ := Fz.φ_law_teams) D.F__law_teams sc__law_teams fun X E g =>
    bd_cons (g_set g (by decide) rfl rfl (pd_al (pd_lst (ad_cons rfl (pd_str (by decide)) (ad_cons rfl (pd_str (by decide)) (ad_cons rfl (pd_str (by decide)) (ad_cons rfl (pd_str (by decide)) (ad_cons rfl (pd_str (by decide)) (ad_cons rfl (pd_str (by decide)) (ad_cons rfl (pd_str (by decide)) (ad_cons rfl (pd_str (by decide)) (ad_nil))))))))))) (fun _ => rfl))
    (bd_cons (sd_pre [] (g_while g (td_cmp (cmpG_ok g.toGd.ok .Gt) (b_len g.toGd D.z_len rfl (ad_cons rfl (g_var g.toGd rfl rfl rfl rfl) (ad_nil)) rfl) (g_var g.toGd rfl rfl rfl rfl) rfl)
    (bd_wp [] (bd_one (sd_expr (m_pop (g_var g.toGd rfl rfl rfl rfl) (ad_cons rfl (pd_callU g.toGd ((F__law_draw D).mono (by decide)) (B1 D) (gl_of g.toGd rfl) D.F__law_draw.mg D.F__law_draw.fn.kp rfl (ad_cons rfl (g_var g.toGd rfl rfl rfl rfl) (ad_cons rfl (b_len g.toGd D.z_len rfl (ad_cons rfl (g_var g.toGd rfl rfl rfl rfl) (ad_nil)) rfl) (ad_nil))) rfl) (ad_nil)) rfl rfl rfl) rfl)))
    (bd_nil)))
    (bd_cons (g_set g (by decide) rfl rfl (pd_al (pd_slice (g_var g.toGd rfl rfl rfl rfl) (od_none) (od_some (pd_bin (binG_ok g.toGd.ok rfl) (pd_int) (pd_callU g.toGd ((F__law_draw D).mono (by decide)) (B1 D) (gl_of g.toGd rfl) D.F__law_draw.mg D.F__law_draw.fn.kp rfl (ad_cons rfl (g_var g.toGd rfl rfl rfl rfl) (ad_cons rfl (g_var g.toGd rfl rfl rfl rfl) (ad_nil))) rfl))))) (fun _ => rfl))
    (bd_fr 2 (bd_cons (sd_if (td_cmp (cmpG_ok g.toGd.ok .Eq) (pd_callU g.toGd ((F__law_draw D).mono (by decide)) (B1 D) (gl_of g.toGd rfl) D.F__law_draw.mg D.F__law_draw.fn.kp rfl (ad_cons rfl (g_var g.toGd rfl rfl rfl rfl) (ad_cons rfl (pd_int) (ad_nil))) rfl) (pd_int) rfl)
    (bd_one (sd_ret (pd_callU g.toGd ((F__law_minimal D).mono (by decide)) (B4 D) (gl_of g.toGd rfl) D.F__law_minimal.mg D.F__law_minimal.fn.kp rfl (ad_cons rfl (pd_callU g.toGd ((F__law_sets_of D).mono (by decide)) (B3 D) (gl_of g.toGd rfl) D.F__law_sets_of.mg D.F__law_sets_of.fn.kp rfl (ad_cons rfl (g_var g.toGd rfl rfl rfl rfl) (ad_cons rfl (pd_orI (pd_callU g.toGd ((F__law_choice D).mono (by decide)) (B2 D) (gl_of g.toGd rfl) D.F__law_choice.mg D.F__law_choice.fn.kp rfl (ad_cons rfl (g_var g.toGd rfl rfl rfl rfl) (ad_cons rfl (pd_lst (ad_cons rfl (pd_int) (ad_cons rfl (pd_bin (binG_ok g.toGd.ok rfl) (b_len g.toGd D.z_len rfl (ad_cons rfl (g_var g.toGd rfl rfl rfl rfl) (ad_nil)) rfl) (pd_int)) (ad_cons rfl (b_min g.toGd D.z_min rfl (ad_cons rfl (pd_int) (ad_cons rfl (b_len g.toGd D.z_len rfl (ad_cons rfl (g_var g.toGd rfl rfl rfl rfl) (ad_nil)) rfl) (ad_nil))) rfl) (ad_nil))))) (ad_nil))) rfl) (pd_one (pd_int))) (ad_nil))) rfl) (ad_nil)) rfl)))
    (bd_nil))
    (bd_cons (g_parN g (by decide) (by decide) rfl rfl rfl rfl rfl (ad_cons rfl (pd_al (pd_lst (ad_nil))) (ad_cons rfl (pd_bin (binG_ok g.toGd.ok rfl) (pd_int) (pd_callU g.toGd ((F__law_draw D).mono (by decide)) (B1 D) (gl_of g.toGd rfl) D.F__law_draw.mg D.F__law_draw.fn.kp rfl (ad_cons rfl (g_var g.toGd rfl rfl rfl rfl) (ad_cons rfl (pd_int) (ad_nil))) rfl)) (ad_nil))))
    (bd_cons (sd_pre [5, 6] (g_for g (id_range1 (gl_of g.toGd rfl) (no_of g.toGd D.z_range) rfl  (ad_cons rfl (pd_bin (binG_ok g.toGd.ok rfl) (pd_int) (pd_callU g.toGd ((F__law_draw D).mono (by decide)) (B1 D) (gl_of g.toGd rfl) D.F__law_draw.mg D.F__law_draw.fn.kp rfl (ad_cons rfl (g_var g.toGd rfl rfl rfl rfl) (ad_cons rfl (pd_int) (ad_nil))) rfl)) (ad_nil))) (g_nm g (by decide) rfl rfl)
    (bd_wp [5, 6] (bd_cons (g_setLc (own := [("_law_name", 7)]) g (by decide) (.inl rfl) rfl rfl (id_val (g_var g.toGd rfl rfl rfl rfl)) (by decide +kernel) (fun X1 g1 => g_nmB g1 (by decide) rfl rfl) (fun X1 g1 => if_one (td_cmp (cmpG_ok g1.toGd.ok .Eq) (pd_callU g1.toGd ((F__law_draw D).mono (by decide)) (B1 D) (gl_of g1.toGd rfl) D.F__law_draw.mg D.F__law_draw.fn.kp rfl (ad_cons rfl (g_var g1.toGd rfl rfl rfl rfl) (ad_cons rfl (pd_bin (binG_ok g1.toGd.ok rfl) (pd_int) (g_var g1.toGd rfl rfl rfl rfl)) (ad_nil))) rfl) (pd_int) rfl)) (fun X1 g1 => g_var g1.toGd rfl rfl rfl rfl) (fun _ => rfl))
    (bd_one (sd_expr (m_append (g_var g.toGd rfl rfl rfl rfl) (ad_cons rfl (b_tuple g.toGd D.z_tuple rfl (ad_cons rfl (pd_if (td_cmp (cmpG_ok g.toGd.ok .NotEq) (g_var g.toGd rfl rfl rfl rfl) (pd_lst (ad_nil)) rfl) (g_var g.toGd rfl rfl rfl rfl) (pd_slice (g_var g.toGd rfl rfl rfl rfl) (od_none) (od_some (pd_int)))) (ad_nil)) rfl) (ad_nil)) rfl rfl rfl) rfl))))
    (bd_nil) (fun _ => rfl)))
    (bd_fr 3 (bd_one (sd_ret (pd_callU g.toGd ((F__law_minimal D).mono (by decide)) (B4 D) (gl_of g.toGd rfl) D.F__law_minimal.mg D.F__law_minimal.fn.kp rfl (ad_cons rfl (g_var g.toGd rfl rfl rfl rfl) (ad_nil)) rfl))))))))))
theorem B11 {Z : Wd} (D : LF Z) : BindsG Z.K D.fd__law_teams ["_law_feed_here", "_law_most"] 2 [] [.at 0, .at 1] := binds_pos D.F__law_teams rfl (fun us hl => match us, hl with | [a0, a1], _ => rfl) (by simp) fun _ _ _ _ _ _ us hl => match us, hl with | [a0, a1], _ => rfl
theorem sc__law_folk : FnScope ["_law_teams_here", "_law_found", "_law_team", "_law_name"] ["_law_teams_here"] (defScope s__law_folk) := ⟨rfl, rfl, rfl, by decide +kernel, rfl, by decide +kernel, by decide +kernel⟩
theorem F__law_folk {Z : Wd} (D : LF Z) : FnG Z 1 D.f__law_folk D.fd__law_folk ["_law_teams_here"] Fz.fs_law_folk :=
  def_ok (N := ["_law_teams_here", "_law_found", "_law_team", "_law_name"]) (U := [0, 1, 2, 3]) (χ := Fz.φ_law_folk) D.F__law_folk sc__law_folk fun X E g =>
    bd_cons (g_set g (by decide) rfl rfl (pd_al (pd_dnew)) (fun _ => rfl))
    (bd_cons (sd_pre [2, 3] (g_for g (id_val (g_var g.toGd rfl rfl rfl rfl)) (g_nm g (by decide) rfl rfl)
    (bd_wp [2, 3] (bd_one (sd_pre [3] (g_for g (id_val (g_var g.toGd rfl rfl rfl rfl)) (g_nm g (by decide) rfl rfl)
    (bd_wp [3] (bd_one (sd_sto g.toGd.ok (g_var g.toGd rfl rfl rfl rfl) (g_var g.toGd rfl rfl rfl rfl) (pd_bool) rfl rfl (fun _ => rfl) rfl)))
    (bd_nil) (fun _ => rfl)))))
    (bd_nil) (fun _ => rfl)))
    (bd_one (sd_ret (b_tuple g.toGd D.z_tuple rfl (ad_cons rfl (b_sortedU g.toGd D.z_sorted rfl (ad_cons rfl (g_var g.toGd rfl rfl rfl rfl) (ad_nil)) rfl) (ad_nil)) rfl))))
theorem B5 {Z : Wd} (D : LF Z) : BindsG Z.K D.fd__law_folk ["_law_teams_here"] 1 [] [.at 0] := binds_pos D.F__law_folk rfl (fun us hl => match us, hl with | [a0], _ => rfl) (by simp) fun _ _ _ _ _ _ us hl => match us, hl with | [a0], _ => rfl
theorem sc__law_subset : FnScope ["_law_feed_here", "_law_some", "_law_one"] ["_law_feed_here", "_law_some"] (defScope s__law_subset) := ⟨rfl, rfl, rfl, by decide +kernel, rfl, by decide +kernel, by decide +kernel⟩
theorem F__law_subset {Z : Wd} (D : LF Z) : FnG Z 2 D.f__law_subset D.fd__law_subset ["_law_feed_here", "_law_some"] Fz.fs_law_subset :=
  def_ok (N := ["_law_feed_here", "_law_some", "_law_one"]) (U := [0, 1, 2]) (χ := Fz.φ_law_subset) D.F__law_subset sc__law_subset fun X E g =>
    bd_one (sd_ret (b_tuple g.toGd D.z_tuple rfl (ad_cons rfl (g_lc (own := [("_law_one", 2)]) g.toGd (id_val (g_var g.toGd rfl rfl rfl rfl)) (by decide +kernel) (fun X1 g1 => g_nmB g1 (by decide) rfl rfl) (fun X1 g1 => if_one (td_cmp (cmpG_ok g1.toGd.ok .Eq) (pd_callU g1.toGd ((F__law_draw D).mono (by decide)) (B1 D) (gl_of g1.toGd rfl) D.F__law_draw.mg D.F__law_draw.fn.kp rfl (ad_cons rfl (g_var g1.toGd rfl rfl rfl rfl) (ad_cons rfl (pd_int) (ad_nil))) rfl) (pd_int) rfl)) (fun X1 g1 => g_var g1.toGd rfl rfl rfl rfl) (fun _ => rfl)) (ad_nil)) rfl))
theorem B13 {Z : Wd} (D : LF Z) : BindsG Z.K D.fd__law_subset ["_law_feed_here", "_law_some"] 2 [] [.at 0, .at 1] := binds_pos D.F__law_subset rfl (fun us hl => match us, hl with | [a0, a1], _ => rfl) (by simp) fun _ _ _ _ _ _ us hl => match us, hl with | [a0, a1], _ => rfl
theorem sc__law_scene : FnScope ["_law_feed_here", "_law_teams_here", "_law_team", "_law_here", "_law_name"] ["_law_feed_here", "_law_teams_here"] (defScope s__law_scene) := ⟨rfl, rfl, rfl, by decide +kernel, rfl, by decide +kernel, by decide +kernel⟩
theorem F__law_scene {Z : Wd} (D : LF Z) : FnG Z 3 D.f__law_scene D.fd__law_scene ["_law_feed_here", "_law_teams_here"] Fz.fs_law_scene :=
  def_ok (N := ["_law_feed_here", "_law_teams_here", "_law_team", "_law_here", "_law_name"]) (U := [0, 1, 2, 3, 4]) (χ := Fz.φ_law_scene) D.F__law_scene sc__law_scene fun X E g =>
    bd_cons (g_set g (by decide) rfl rfl (pd_callU g.toGd ((F__law_choice D).mono (by decide)) (B2 D) (gl_of g.toGd rfl) D.F__law_choice.mg D.F__law_choice.fn.kp rfl (ad_cons rfl (g_var g.toGd rfl rfl rfl rfl) (ad_cons rfl (g_var g.toGd rfl rfl rfl rfl) (ad_nil))) rfl) (fun _ => rfl))
    (bd_cons (g_setLc (own := [("_law_name", 4)]) g (by decide) (.inl rfl) rfl rfl (id_val (pd_callU g.toGd ((F__law_folk D).mono (by decide)) (B5 D) (gl_of g.toGd rfl) D.F__law_folk.mg D.F__law_folk.fn.kp rfl (ad_cons rfl (g_var g.toGd rfl rfl rfl rfl) (ad_nil)) rfl)) (by decide +kernel) (fun X1 g1 => g_nmB g1 (by decide) rfl rfl) (fun X1 g1 => if_one (td_bool (wd_or (td_cmp (cmpG_ok g1.toGd.ok .In) (g_var g1.toGd rfl rfl rfl rfl) (g_var g1.toGd rfl rfl rfl rfl) rfl) (wd_or1 (td_cmp (cmpG_ok g1.toGd.ok .Gt) (pd_callU g1.toGd ((F__law_draw D).mono (by decide)) (B1 D) (gl_of g1.toGd rfl) D.F__law_draw.mg D.F__law_draw.fn.kp rfl (ad_cons rfl (g_var g1.toGd rfl rfl rfl rfl) (ad_cons rfl (pd_int) (ad_nil))) rfl) (pd_int) rfl))))) (fun X1 g1 => g_var g1.toGd rfl rfl rfl rfl) (fun _ => rfl))
    (bd_one (sd_ret (pd_tup (ad_cons rfl (b_tuple g.toGd D.z_tuple rfl (ad_cons rfl (g_var g.toGd rfl rfl rfl rfl) (ad_nil)) rfl) (ad_cons rfl (g_var g.toGd rfl rfl rfl rfl) (ad_nil)))))))
theorem B14 {Z : Wd} (D : LF Z) : BindsG Z.K D.fd__law_scene ["_law_feed_here", "_law_teams_here"] 2 [] [.at 0, .at 1] := binds_pos D.F__law_scene rfl (fun us hl => match us, hl with | [a0, a1], _ => rfl) (by simp) fun _ _ _ _ _ _ us hl => match us, hl with | [a0, a1], _ => rfl
theorem sc__law_left : FnScope ["_law_teams_here", "_law_here", "_law_team"] ["_law_teams_here", "_law_here"] (defScope s__law_left) := ⟨rfl, rfl, rfl, by decide +kernel, rfl, by decide +kernel, by decide +kernel⟩
theorem F__law_left {Z : Wd} (D : LF Z) : FnG Z 2 D.f__law_left D.fd__law_left ["_law_teams_here", "_law_here"] Fz.fs_law_left :=
  def_ok (N := ["_law_teams_here", "_law_here", "_law_team"]) (U := [0, 1, 2]) (χ := Fz.φ_law_left) D.F__law_left sc__law_left fun X E g =>
    bd_one (sd_ret (b_tuple g.toGd D.z_tuple rfl (ad_cons rfl (g_lc (own := [("_law_team", 2)]) g.toGd (id_val (g_var g.toGd rfl rfl rfl rfl)) (by decide +kernel) (fun X1 g1 => g_nmB g1 (by decide) rfl rfl) (fun X1 g1 => if_one (td_val (pd_callU g1.toGd ((F__law_is_part D).mono (by decide)) (B0 D) (gl_of g1.toGd rfl) D.F__law_is_part.mg D.F__law_is_part.fn.kp rfl (ad_cons rfl (g_var g1.toGd rfl rfl rfl rfl) (ad_cons rfl (g_var g1.toGd rfl rfl rfl rfl) (ad_nil))) rfl) (fun _ => rfl))) (fun X1 g1 => g_var g1.toGd rfl rfl rfl rfl) (fun _ => rfl)) (ad_nil)) rfl))
theorem B8 {Z : Wd} (D : LF Z) : BindsG Z.K D.fd__law_left ["_law_teams_here", "_law_here"] 2 [] [.at 0, .at 1] := binds_pos D.F__law_left rfl (fun us hl => match us, hl with | [a0, a1], _ => rfl) (by simp) fun _ _ _ _ _ _ us hl => match us, hl with | [a0, a1], _ => rfl
theorem sc_people_of : FnScope ["crews", "crew", "person"] ["crews"] (defScope s_people_of) := ⟨rfl, rfl, rfl, by decide +kernel, rfl, by decide +kernel, by decide +kernel⟩
theorem F_people_of {Z : Wd} (D : LF Z) : FnG Z 1 D.f_people_of D.fd_people_of ["crews"] Fz.fs_people_of :=
  def_ok (N := ["crews", "crew", "person"]) (U := [0, 1, 2]) (χ := Fz.φ_people_of) D.F_people_of sc_people_of fun X E g =>
    bd_one (sd_ret (b_tuple g.toGd D.z_tuple rfl (ad_cons rfl (b_srtSc2 (own := [("crew", 1), ("person", 2)]) g.toGd D.z_sorted rfl (g_var g.toGd rfl rfl rfl rfl) (by decide +kernel) rfl rfl (by decide +kernel) (by decide +kernel) (by decide +kernel) (by decide +kernel) rfl rfl rfl rfl (by decide) (by decide) (fun _ => rfl)) (ad_nil)) rfl))
theorem B6 {Z : Wd} (D : LF Z) : BindsG Z.K D.fd_people_of ["crews"] 1 [] [.at 0] := binds_pos D.F_people_of rfl (fun us hl => match us, hl with | [a0], _ => rfl) (by simp) fun _ _ _ _ _ _ us hl => match us, hl with | [a0], _ => rfl
theorem sc_require_people : FnScope ["crews", "lots", "known_people", "lot", "name"] ["crews", "lots"] (defScope s_require_people) := ⟨rfl, rfl, rfl, by decide +kernel, rfl, by decide +kernel, by decide +kernel⟩
theorem F_require_people {Z : Wd} (D : LF Z) : FnGS Z 2 D.f_require_people Fz.fs_require_people :=
  def_okS (N := ["crews", "lots", "known_people", "lot", "name"]) (ps := ["crews"]) (pv := "lots") (U := [0, 1, 2, 3, 4]) (χ := Fz.φ_require_people) D.F_require_people sc_require_people (fun kV doc pm an cdv ct => StX.bind_star1 (B := fun us => bindArgs (PySem.W.fnOf "require_people" "require_people" (defArgs s_require_people) (defBody s_require_people) (defScope s_require_people) .none kV doc pm an cdv ct) ⟨us, []⟩) (fun a => rfl) (fun a r rs => rfl)) fun X E g =>
    bd_cons (g_set g (by decide) rfl rfl (pd_callU g.toGd ((F_people_of D).mono (by decide)) (B6 D) (gl_of g.toGd rfl) D.F_people_of.mg D.F_people_of.fn.kp rfl (ad_cons rfl (g_var g.toGd rfl rfl rfl rfl) (ad_nil)) rfl) (fun _ => rfl))
    (bd_one (sd_pre [3, 4] (g_for g (id_val (g_var g.toGd rfl rfl rfl rfl)) (g_nm g (by decide) rfl rfl)
    (bd_wp [3, 4] (bd_one (sd_pre [4] (g_for g (id_val (g_var g.toGd rfl rfl rfl rfl)) (g_nm g (by decide) rfl rfl)
    (bd_wp [4] (bd_one (sd_if (td_cmp (cmpG_ok g.toGd.ok .NotIn) (g_var g.toGd rfl rfl rfl rfl) (g_var g.toGd rfl rfl rfl rfl) rfl)
    (bd_one (sd_bad))
    (bd_nil))))
    (bd_nil) (fun _ => rfl)))))
    (bd_nil) (fun _ => rfl))))
theorem sc_present_without : FnScope ["present", "lost", "person"] ["present", "lost"] (defScope s_present_without) := ⟨rfl, rfl, rfl, by decide +kernel, rfl, by decide +kernel, by decide +kernel⟩
theorem F_present_without {Z : Wd} (D : LF Z) : FnGS Z 1 D.f_present_without Fz.fs_present_without :=
  def_okS (N := ["present", "lost", "person"]) (ps := ["present"]) (pv := "lost") (U := [0, 1, 2]) (χ := Fz.φ_present_without) D.F_present_without sc_present_without (fun kV doc pm an cdv ct => StX.bind_star1 (B := fun us => bindArgs (PySem.W.fnOf "present_without" "present_without" (defArgs s_present_without) (defBody s_present_without) (defScope s_present_without) .none kV doc pm an cdv ct) ⟨us, []⟩) (fun a => rfl) (fun a r rs => rfl)) fun X E g =>
    bd_one (sd_ret (b_tuple g.toGd D.z_tuple rfl (ad_cons rfl (g_lc (own := [("person", 2)]) g.toGd (id_val (g_var g.toGd rfl rfl rfl rfl)) (by decide +kernel) (fun X1 g1 => g_nmB g1 (by decide) rfl rfl) (fun X1 g1 => if_one (td_cmp (cmpG_ok g1.toGd.ok .NotIn) (g_var g1.toGd rfl rfl rfl rfl) (g_var g1.toGd rfl rfl rfl rfl) rfl)) (fun X1 g1 => g_var g1.toGd rfl rfl rfl rfl) (fun _ => rfl)) (ad_nil)) rfl))
theorem sc_left_in : FnScope ["crews", "present", "crew", "person"] ["crews", "present"] (defScope s_left_in) := ⟨rfl, rfl, rfl, by decide +kernel, rfl, by decide +kernel, by decide +kernel⟩
theorem F_left_in {Z : Wd} (D : LF Z) : FnG Z 1 D.f_left_in D.fd_left_in ["crews", "present"] Fz.fs_left_in :=
  def_ok (N := ["crews", "present", "crew", "person"]) (U := [0, 1, 2, 3]) (χ := Fz.φ_left_in) D.F_left_in sc_left_in fun X E g =>
    bd_one (sd_ret (b_tuple g.toGd D.z_tuple rfl (ad_cons rfl (g_lc (own := [("crew", 2)]) g.toGd (id_val (g_var g.toGd rfl rfl rfl rfl)) (by decide +kernel) (fun X1 g1 => g_nmB g1 (by decide) rfl rfl) (fun X1 g1 => if_one (td_val (b_all g1.toGd D.z_all rfl (ad_cons rfl (g_lc (own := [("person", 3)]) g1.toGd (id_val (g_var g1.toGd rfl rfl rfl rfl)) (by decide +kernel) (fun X2 g2 => g_nmB g2 (by decide) rfl rfl) (fun X2 g2 => if_nil) (fun X2 g2 => pd_cmp (cmpG_ok g2.toGd.ok .In) (g_var g2.toGd rfl rfl rfl rfl) (g_var g2.toGd rfl rfl rfl rfl) rfl) (fun _ => rfl)) (ad_nil)) rfl) (fun _ => rfl))) (fun X1 g1 => g_var g1.toGd rfl rfl rfl rfl) (fun _ => rfl)) (ad_nil)) rfl))
theorem B7 {Z : Wd} (D : LF Z) : BindsG Z.K D.fd_left_in ["crews", "present"] 2 [] [.at 0, .at 1] := binds_pos D.F_left_in rfl (fun us hl => match us, hl with | [a0, a1], _ => rfl) (by simp) fun _ _ _ _ _ _ us hl => match us, hl with | [a0, a1], _ => rfl
theorem sc_after : FnScope ["crews", "present", "lost", "people"] ["crews", "present", "lost"] (defScope s_after) := ⟨rfl, rfl, rfl, by decide +kernel, rfl, by decide +kernel, by decide +kernel⟩
theorem F_after {Z : Wd} (D : LF Z) : FnGS Z 3 D.f_after Fz.fs_after :=
  def_okS (N := ["crews", "present", "lost", "people"]) (ps := ["crews", "present"]) (pv := "lost") (U := [0, 1, 2, 3]) (χ := Fz.φ_after) D.F_after sc_after (fun kV doc pm an cdv ct => StX.bind_star2 (B := fun us => bindArgs (PySem.W.fnOf "after" "after" (defArgs s_after) (defBody s_after) (defScope s_after) .none kV doc pm an cdv ct) ⟨us, []⟩) (fun a b => rfl) (fun a b r rs => rfl)) fun X E g =>
    bd_cons (sd_expr (pd_callV g.toGd ((F_require_people D).mono (by decide)) (gl_of g.toGd rfl) D.F_require_people.mg D.F_require_people.fn.kp rfl (ad_cons rfl (g_var g.toGd rfl rfl rfl rfl) (ad_cons rfl (g_var g.toGd rfl rfl rfl rfl) (ad_cons rfl (g_var g.toGd rfl rfl rfl rfl) (ad_nil)))) rfl) rfl)
    (bd_cons (g_set g (by decide) rfl rfl (pd_callVS g.toGd ((F_present_without D).mono (by decide)) (gl_of g.toGd rfl) D.F_present_without.mg D.F_present_without.fn.kp rfl (ad_cons rfl (g_var g.toGd rfl rfl rfl rfl) (ad_star (g_var g.toGd rfl rfl rfl rfl) (ad_nil) (by rfl))) (by rfl) rfl) (fun _ => rfl))
    (bd_one (sd_ret (pd_tup (ad_cons rfl (g_var g.toGd rfl rfl rfl rfl) (ad_cons rfl (pd_callU g.toGd ((F_left_in D).mono (by decide)) (B7 D) (gl_of g.toGd rfl) D.F_left_in.mg D.F_left_in.fn.kp rfl (ad_cons rfl (g_var g.toGd rfl rfl rfl rfl) (ad_cons rfl (g_var g.toGd rfl rfl rfl rfl) (ad_nil))) rfl) (ad_nil)))))))
theorem FK0 {Z : Wd} (D : LF Z) : FnGK Z 3 D.f_after ["present", "crews"] (starK [.at 1, .at 0] 2 Fz.fb_after) :=
  def_okK (N := ["crews", "present", "lost", "people"]) (ps := ["crews", "present"]) (pv := "lost") (U := [0, 1, 2, 3]) (χ := Fz.φ_after) D.F_after sc_after rfl (by simp) (fun kV doc pm an cdv ct us hl => match us, hl with | [b0, b1], _ => rfl) fun X E g =>
    bd_cons (sd_expr (pd_callV g.toGd ((F_require_people D).mono (by decide)) (gl_of g.toGd rfl) D.F_require_people.mg D.F_require_people.fn.kp rfl (ad_cons rfl (g_var g.toGd rfl rfl rfl rfl) (ad_cons rfl (g_var g.toGd rfl rfl rfl rfl) (ad_cons rfl (g_var g.toGd rfl rfl rfl rfl) (ad_nil)))) rfl) rfl)
    (bd_cons (g_set g (by decide) rfl rfl (pd_callVS g.toGd ((F_present_without D).mono (by decide)) (gl_of g.toGd rfl) D.F_present_without.mg D.F_present_without.fn.kp rfl (ad_cons rfl (g_var g.toGd rfl rfl rfl rfl) (ad_star (g_var g.toGd rfl rfl rfl rfl) (ad_nil) (by rfl))) (by rfl) rfl) (fun _ => rfl))
    (bd_one (sd_ret (pd_tup (ad_cons rfl (g_var g.toGd rfl rfl rfl rfl) (ad_cons rfl (pd_callU g.toGd ((F_left_in D).mono (by decide)) (B7 D) (gl_of g.toGd rfl) D.F_left_in.mg D.F_left_in.fn.kp rfl (ad_cons rfl (g_var g.toGd rfl rfl rfl rfl) (ad_cons rfl (g_var g.toGd rfl rfl rfl rfl) (ad_nil))) rfl) (ad_nil)))))))
theorem sc__law_told : FnScope ["_law_teams_here", "_law_here", "_law_gone", "_law_found"] ["_law_teams_here", "_law_here", "_law_gone"] (defScope s__law_told) := ⟨rfl, rfl, rfl, by decide +kernel, rfl, by decide +kernel, by decide +kernel⟩
theorem F__law_told {Z : Wd} (D : LF Z) : FnG Z 4 D.f__law_told D.fd__law_told ["_law_teams_here", "_law_here", "_law_gone"] Fz.fs_law_told :=
  def_ok (N := ["_law_teams_here", "_law_here", "_law_gone", "_law_found"]) (U := [0, 1, 2, 3]) (χ := Fz.φ_law_told) D.F__law_told sc__law_told fun X E g =>
    bd_cons (sd_if (td_cmp (cmpG_ok g.toGd.ok .Eq) (b_len g.toGd D.z_len rfl (ad_cons rfl (g_var g.toGd rfl rfl rfl rfl) (ad_nil)) rfl) (pd_int) rfl)
    (bd_cons (g_set g (by decide) rfl rfl (pd_callV g.toGd ((F_after D).mono (by decide)) (gl_of g.toGd rfl) D.F_after.mg D.F_after.fn.kp rfl (ad_cons rfl (g_var g.toGd rfl rfl rfl rfl) (ad_cons rfl (g_var g.toGd rfl rfl rfl rfl) (ad_nil))) rfl) (fun _ => rfl))
    (bd_one (sd_ret (pd_if (td_cmp (cmpG_ok g.toGd.ok .Eq) (b_repr g.toGd D.z_repr rfl (ad_cons rfl (pd_callK g.toGd ((FK0 D).mono (by decide)) (gl_of g.toGd rfl) D.F_after.mg D.F_after.fn.kp rfl (kd_cons (g_var g.toGd rfl rfl rfl rfl) (kd_cons (g_var g.toGd rfl rfl rfl rfl) (kd_nil))) rfl) (ad_nil)) rfl) (b_repr g.toGd D.z_repr rfl (ad_cons rfl (g_var g.toGd rfl rfl rfl rfl) (ad_nil)) rfl) rfl) (g_var g.toGd rfl rfl rfl rfl) (pd_none)))))
    (bd_nil))
    (bd_cons (sd_if (td_cmp (cmpG_ok g.toGd.ok .Eq) (b_len g.toGd D.z_len rfl (ad_cons rfl (g_var g.toGd rfl rfl rfl rfl) (ad_nil)) rfl) (pd_int) rfl)
    (bd_one (sd_ret (pd_callV g.toGd ((F_after D).mono (by decide)) (gl_of g.toGd rfl) D.F_after.mg D.F_after.fn.kp rfl (ad_cons rfl (g_var g.toGd rfl rfl rfl rfl) (ad_cons rfl (g_var g.toGd rfl rfl rfl rfl) (ad_cons rfl (pd_sub g.toGd.ok (g_var g.toGd rfl rfl rfl rfl) (pd_int) rfl) (ad_nil)))) rfl)))
    (bd_nil))
    (bd_cons (sd_if (td_cmp (cmpG_ok g.toGd.ok .Eq) (b_len g.toGd D.z_len rfl (ad_cons rfl (g_var g.toGd rfl rfl rfl rfl) (ad_nil)) rfl) (pd_int) rfl)
    (bd_one (sd_ret (pd_callV g.toGd ((F_after D).mono (by decide)) (gl_of g.toGd rfl) D.F_after.mg D.F_after.fn.kp rfl (ad_cons rfl (g_var g.toGd rfl rfl rfl rfl) (ad_cons rfl (g_var g.toGd rfl rfl rfl rfl) (ad_cons rfl (pd_sub g.toGd.ok (g_var g.toGd rfl rfl rfl rfl) (pd_int) rfl) (ad_cons rfl (pd_sub g.toGd.ok (g_var g.toGd rfl rfl rfl rfl) (pd_int) rfl) (ad_nil))))) rfl)))
    (bd_nil))
    (bd_cons (sd_if (td_cmp (cmpG_ok g.toGd.ok .Eq) (b_len g.toGd D.z_len rfl (ad_cons rfl (g_var g.toGd rfl rfl rfl rfl) (ad_nil)) rfl) (pd_int) rfl)
    (bd_one (sd_ret (pd_callV g.toGd ((F_after D).mono (by decide)) (gl_of g.toGd rfl) D.F_after.mg D.F_after.fn.kp rfl (ad_cons rfl (g_var g.toGd rfl rfl rfl rfl) (ad_cons rfl (g_var g.toGd rfl rfl rfl rfl) (ad_cons rfl (pd_sub g.toGd.ok (g_var g.toGd rfl rfl rfl rfl) (pd_int) rfl) (ad_cons rfl (pd_sub g.toGd.ok (g_var g.toGd rfl rfl rfl rfl) (pd_int) rfl) (ad_cons rfl (pd_sub g.toGd.ok (g_var g.toGd rfl rfl rfl rfl) (pd_int) rfl) (ad_nil)))))) rfl)))
    (bd_nil))
    (bd_cons (sd_if (td_cmp (cmpG_ok g.toGd.ok .Lt) (b_len g.toGd D.z_len rfl (ad_cons rfl (g_var g.toGd rfl rfl rfl rfl) (ad_nil)) rfl) (pd_int) rfl)
    (bd_one (sd_ret (pd_callV g.toGd ((F_after D).mono (by decide)) (gl_of g.toGd rfl) D.F_after.mg D.F_after.fn.kp rfl (ad_cons rfl (g_var g.toGd rfl rfl rfl rfl) (ad_cons rfl (g_var g.toGd rfl rfl rfl rfl) (ad_cons rfl (pd_sub g.toGd.ok (g_var g.toGd rfl rfl rfl rfl) (pd_int) rfl) (ad_cons rfl (pd_sub g.toGd.ok (g_var g.toGd rfl rfl rfl rfl) (pd_int) rfl) (ad_cons rfl (pd_sub g.toGd.ok (g_var g.toGd rfl rfl rfl rfl) (pd_int) rfl) (ad_cons rfl (pd_sub g.toGd.ok (g_var g.toGd rfl rfl rfl rfl) (pd_int) rfl) (ad_nil))))))) rfl)))
    (bd_nil))
    (bd_one (sd_ret (pd_callV g.toGd ((F_after D).mono (by decide)) (gl_of g.toGd rfl) D.F_after.mg D.F_after.fn.kp rfl (ad_cons rfl (g_var g.toGd rfl rfl rfl rfl) (ad_cons rfl (g_var g.toGd rfl rfl rfl rfl) (ad_cons rfl (pd_sub g.toGd.ok (g_var g.toGd rfl rfl rfl rfl) (pd_int) rfl) (ad_cons rfl (pd_sub g.toGd.ok (g_var g.toGd rfl rfl rfl rfl) (pd_int) rfl) (ad_cons rfl (pd_sub g.toGd.ok (g_var g.toGd rfl rfl rfl rfl) (pd_int) rfl) (ad_cons rfl (pd_sub g.toGd.ok (g_var g.toGd rfl rfl rfl rfl) (pd_int) rfl) (ad_cons rfl (pd_sub g.toGd.ok (g_var g.toGd rfl rfl rfl rfl) (pd_int) rfl) (ad_cons rfl (pd_sub g.toGd.ok (g_var g.toGd rfl rfl rfl rfl) (pd_int) rfl) (ad_cons rfl (pd_sub g.toGd.ok (g_var g.toGd rfl rfl rfl rfl) (pd_int) rfl) (ad_cons rfl (pd_sub g.toGd.ok (g_var g.toGd rfl rfl rfl rfl) (pd_int) rfl) (ad_nil))))))))))) rfl)))))))
theorem B9 {Z : Wd} (D : LF Z) : BindsG Z.K D.fd__law_told ["_law_teams_here", "_law_here", "_law_gone"] 3 [] [.at 0, .at 1, .at 2] := binds_pos D.F__law_told rfl (fun us hl => match us, hl with | [a0, a1, a2], _ => rfl) (by simp) fun _ _ _ _ _ _ us hl => match us, hl with | [a0, a1, a2], _ => rfl
theorem sc__law_agrees : FnScope ["_law_teams_here", "_law_here", "_law_gone", "_law_used", "_law_rest", "_law_name", "_law_before", "_law_expected"] ["_law_teams_here", "_law_here", "_law_gone"] (defScope s__law_agrees) := ⟨rfl, rfl, rfl, by decide +kernel, rfl, by decide +kernel, by decide +kernel⟩
theorem F__law_agrees {Z : Wd} (D : LF Z) : FnG Z 5 D.f__law_agrees D.fd__law_agrees ["_law_teams_here", "_law_here", "_law_gone"] Fz.fs_law_agrees_2 :=
  def_ok (N := ["_law_teams_here", "_law_here", "_law_gone", "_law_used", "_law_rest", "_law_name", "_law_before", "_law_expected"]) (U := [0, 1, 2, 3, 4, 5, 6, 7]) (χ := Fz.φ_law_agrees_2) D.F__law_agrees sc__law_agrees fun X E g =>
    bd_cons (g_set g (by decide) rfl rfl (pd_if (td_cmp (cmpG_ok g.toGd.ok .Lt) (b_len g.toGd D.z_len rfl (ad_cons rfl (g_var g.toGd rfl rfl rfl rfl) (ad_nil)) rfl) (pd_int) rfl) (pd_slice (g_var g.toGd rfl rfl rfl rfl) (od_none) (od_some (pd_int))) (pd_slice (g_var g.toGd rfl rfl rfl rfl) (od_none) (od_some (pd_int)))) (fun _ => rfl))
    (bd_cons (g_set g (by decide) rfl rfl (b_tuple g.toGd D.z_tuple rfl (ad_cons rfl (g_lc (own := [("_law_name", 5)]) g.toGd (id_val (g_var g.toGd rfl rfl rfl rfl)) (by decide +kernel) (fun X1 g1 => g_nmB g1 (by decide) rfl rfl) (fun X1 g1 => if_one (td_cmp (cmpG_ok g1.toGd.ok .NotIn) (g_var g1.toGd rfl rfl rfl rfl) (g_var g1.toGd rfl rfl rfl rfl) rfl)) (fun X1 g1 => g_var g1.toGd rfl rfl rfl rfl) (fun _ => rfl)) (ad_nil)) rfl) (fun _ => rfl))
    (bd_cons (g_par g (by decide) (by decide) rfl rfl (by decide) rfl rfl (ad_cons rfl (b_repr g.toGd D.z_repr rfl (ad_cons rfl (pd_tup (ad_cons rfl (g_var g.toGd rfl rfl rfl rfl) (ad_cons rfl (g_var g.toGd rfl rfl rfl rfl) (ad_nil)))) (ad_nil)) rfl) (ad_cons rfl (b_repr g.toGd D.z_repr rfl (ad_cons rfl (pd_tup (ad_cons rfl (g_var g.toGd rfl rfl rfl rfl) (ad_cons rfl (pd_callU g.toGd ((F__law_left D).mono (by decide)) (B8 D) (gl_of g.toGd rfl) D.F__law_left.mg D.F__law_left.fn.kp rfl (ad_cons rfl (g_var g.toGd rfl rfl rfl rfl) (ad_cons rfl (g_var g.toGd rfl rfl rfl rfl) (ad_nil))) rfl) (ad_nil)))) (ad_nil)) rfl) (ad_nil))) (sw2 (by decide) rfl rfl rfl rfl rfl))
    (bd_one (sd_ret (pd_and (pd_cmp (cmpG_ok g.toGd.ok .Eq) (b_repr g.toGd D.z_repr rfl (ad_cons rfl (pd_callU g.toGd ((F__law_told D).mono (by decide)) (B9 D) (gl_of g.toGd rfl) D.F__law_told.mg D.F__law_told.fn.kp rfl (ad_cons rfl (g_var g.toGd rfl rfl rfl rfl) (ad_cons rfl (g_var g.toGd rfl rfl rfl rfl) (ad_cons rfl (g_var g.toGd rfl rfl rfl rfl) (ad_nil)))) rfl) (ad_nil)) rfl) (g_var g.toGd rfl rfl rfl rfl) rfl) (pd_one (pd_cmp (cmpG_ok g.toGd.ok .Eq) (b_repr g.toGd D.z_repr rfl (ad_cons rfl (pd_tup (ad_cons rfl (g_var g.toGd rfl rfl rfl rfl) (ad_cons rfl (g_var g.toGd rfl rfl rfl rfl) (ad_nil)))) (ad_nil)) rfl) (g_var g.toGd rfl rfl rfl rfl) rfl)))))))
theorem B12 {Z : Wd} (D : LF Z) : BindsG Z.K D.fd__law_agrees ["_law_teams_here", "_law_here", "_law_gone"] 3 [] [.at 0, .at 1, .at 2] := binds_pos D.F__law_agrees rfl (fun us hl => match us, hl with | [a0, a1, a2], _ => rfl) (by simp) fun _ _ _ _ _ _ us hl => match us, hl with | [a0, a1, a2], _ => rfl
theorem sc_law : FnScope ["_law_script", "_law_feed_here", "_law_attempt", "_law_teams_here", "_law_folk_here", "_law_here", "_law_many", "_law_gone", "_law_k"] ["_law_script"] (defScope s_law) := ⟨rfl, rfl, rfl, by decide +kernel, rfl, by decide +kernel, by decide +kernel⟩
theorem F_law {Z : Wd} (D : LF Z) : FnG Z 6 D.f_law D.fd_law ["_law_script"] Fz.fs_law_2 :=
  def_ok (N := ["_law_script", "_law_feed_here", "_law_attempt", "_law_teams_here", "_law_folk_here", "_law_here", "_law_many", "_law_gone", "_law_k"]) (U := [0, 1, 2, 3, 4, 5, 6, 7, 8]) (χ := Fz.φ_law_2) D.F_law sc_law fun X E g =>
    bd_cons (g_set g (by decide) rfl rfl (pd_al (pd_callU g.toGd ((F__law_feed D).mono (by decide)) (B10 D) (gl_of g.toGd rfl) D.F__law_feed.mg D.F__law_feed.fn.kp rfl (ad_cons rfl (g_var g.toGd rfl rfl rfl rfl) (ad_nil)) rfl)) (fun _ => rfl))
    (bd_cons (sd_pre [2, 3, 4, 5, 6, 7] (g_for g (id_range1 (gl_of g.toGd rfl) (no_of g.toGd D.z_range) rfl  (ad_cons rfl (pd_int) (ad_nil))) (g_nm g (by decide) rfl rfl)
    (bd_wp [2, 3, 4, 5, 6, 7] (bd_cons (g_set g (by decide) rfl rfl (pd_callU g.toGd ((F__law_teams D).mono (by decide)) (B11 D) (gl_of g.toGd rfl) D.F__law_teams.mg D.F__law_teams.fn.kp rfl (ad_cons rfl (g_var g.toGd rfl rfl rfl rfl) (ad_cons rfl (pd_int) (ad_nil))) rfl) (fun _ => rfl))
    (bd_cons (g_set g (by decide) rfl rfl (pd_callU g.toGd ((F__law_folk D).mono (by decide)) (B5 D) (gl_of g.toGd rfl) D.F__law_folk.mg D.F__law_folk.fn.kp rfl (ad_cons rfl (g_var g.toGd rfl rfl rfl rfl) (ad_nil)) rfl) (fun _ => rfl))
    (bd_one (sd_pre [5, 6, 7] (g_for g (id_val (pd_tup (ad_cons rfl (g_var g.toGd rfl rfl rfl rfl) (ad_cons rfl (pd_tup (ad_nil)) (ad_cons rfl (pd_sub g.toGd.ok (pd_callU g.toGd ((F__law_scene D).mono (by decide)) (B14 D) (gl_of g.toGd rfl) D.F__law_scene.mg D.F__law_scene.fn.kp rfl (ad_cons rfl (g_var g.toGd rfl rfl rfl rfl) (ad_cons rfl (g_var g.toGd rfl rfl rfl rfl) (ad_nil))) rfl) (pd_int) rfl) (ad_cons rfl (pd_callU g.toGd ((F__law_subset D).mono (by decide)) (B13 D) (gl_of g.toGd rfl) D.F__law_subset.mg D.F__law_subset.fn.kp rfl (ad_cons rfl (g_var g.toGd rfl rfl rfl rfl) (ad_cons rfl (g_var g.toGd rfl rfl rfl rfl) (ad_nil))) rfl) (ad_nil))))))) (g_nm g (by decide) rfl rfl)
    (bd_wp [5, 6, 7] (bd_cons (sd_pre [6, 7] (g_for g (id_val (pd_tup (ad_cons rfl (pd_int) (ad_cons rfl (pd_int) (ad_cons rfl (pd_int) (ad_cons rfl (pd_int) (ad_cons rfl (pd_int) (ad_cons rfl (pd_int) (ad_nil))))))))) (g_nm g (by decide) rfl rfl)
    (bd_wp [6, 7] (bd_cons (g_setLc (own := [("_law_k", 8)]) g (by decide) (.inl rfl) rfl rfl (id_range1 (gl_of g.toGd rfl) (no_of g.toGd D.z_range) rfl  (ad_cons rfl (g_var g.toGd rfl rfl rfl rfl) (ad_nil))) (by decide +kernel) (fun X1 g1 => g_nmB g1 (by decide) rfl rfl) (fun X1 g1 => if_nil) (fun X1 g1 => pd_callU g1.toGd ((F__law_choice D).mono (by decide)) (B2 D) (gl_of g1.toGd rfl) D.F__law_choice.mg D.F__law_choice.fn.kp rfl (ad_cons rfl (g_var g1.toGd rfl rfl rfl rfl) (ad_cons rfl (g_var g1.toGd rfl rfl rfl rfl) (ad_nil))) rfl) (fun _ => rfl))
    (bd_one (sd_if (td_not (td_val (pd_callU g.toGd ((F__law_agrees D).mono (by decide)) (B12 D) (gl_of g.toGd rfl) D.F__law_agrees.mg D.F__law_agrees.fn.kp rfl (ad_cons rfl (g_var g.toGd rfl rfl rfl rfl) (ad_cons rfl (g_var g.toGd rfl rfl rfl rfl) (ad_cons rfl (g_var g.toGd rfl rfl rfl rfl) (ad_nil)))) rfl) (fun _ => rfl)))
    (bd_one (sd_ret (pd_bool)))
    (bd_nil)))))
    (bd_nil) (fun _ => rfl)))
    (bd_one (sd_if (td_bool (wd_or (td_not (td_val (pd_callU g.toGd ((F__law_agrees D).mono (by decide)) (B12 D) (gl_of g.toGd rfl) D.F__law_agrees.mg D.F__law_agrees.fn.kp rfl (ad_cons rfl (g_var g.toGd rfl rfl rfl rfl) (ad_cons rfl (g_var g.toGd rfl rfl rfl rfl) (ad_cons rfl (pd_slice (b_list g.toGd D.z_list rfl (ad_cons rfl (g_var g.toGd rfl rfl rfl rfl) (ad_nil)) rfl) (od_none) (od_some (pd_int))) (ad_nil)))) rfl) (fun _ => rfl))) (wd_or1 (td_not (td_val (pd_callU g.toGd ((F__law_agrees D).mono (by decide)) (B12 D) (gl_of g.toGd rfl) D.F__law_agrees.mg D.F__law_agrees.fn.kp rfl (ad_cons rfl (g_var g.toGd rfl rfl rfl rfl) (ad_cons rfl (g_var g.toGd rfl rfl rfl rfl) (ad_cons rfl (pd_slice (pd_rev (b_list g.toGd D.z_list rfl (ad_cons rfl (g_var g.toGd rfl rfl rfl rfl) (ad_nil)) rfl)) (od_none) (od_some (pd_int))) (ad_nil)))) rfl) (fun _ => rfl))))))
    (bd_one (sd_ret (pd_bool)))
    (bd_nil)))))
    (bd_nil) (fun _ => rfl)))))))
    (bd_nil) (fun _ => rfl)))
    (bd_one (sd_ret (pd_bool))))
theorem all_mk {l : PySem.W.OpenLaw} {w : World} {K : PySem.W.Frag} {h : Heap} {mg : Str → Option Value} {fa : Addr} (X : K.In h) (G : h.Ns mainGlobals mg) (hfa : mg "law" = some (.ref fa))
    {f1 f2 f3 f4 f5 f6 f7 f8 f9 f10 f11 f12 f13 f14 f15 f16 f17 f18 f19 : Addr} {od1 an1 od2 an2 od3 an3 od4 an4 od5 an5 od6 an6 od7 an7 od8 an8 od9 an9 od10 an10 od11 an11 od12 an12 od13 an13 od14 an14 od15 an15 od16 an16 od17 an17 od18 an18 od19 an19 : Option Addr} {sl1 sl2 sl3 sl4 sl5 sl6 sl7 sl8 sl9 sl10 sl11 sl12 sl13 sl14 sl15 sl16 sl17 sl18 sl19 : Array (Option Value)} {oc1 kV1 dc1 pm1 cd1 ct1 oc2 kV2 dc2 pm2 cd2 ct2 oc3 kV3 dc3 pm3 cd3 ct3 oc4 kV4 dc4 pm4 cd4 ct4 oc5 kV5 dc5 pm5 cd5 ct5 oc6 kV6 dc6 pm6 cd6 ct6 oc7 kV7 dc7 pm7 cd7 ct7 oc8 kV8 dc8 pm8 cd8 ct8 oc9 kV9 dc9 pm9 cd9 ct9 oc10 kV10 dc10 pm10 cd10 ct10 oc11 kV11 dc11 pm11 cd11 ct11 oc12 kV12 dc12 pm12 cd12 ct12 oc13 kV13 dc13 pm13 cd13 ct13 oc14 kV14 dc14 pm14 cd14 ct14 oc15 kV15 dc15 pm15 cd15 ct15 oc16 kV16 dc16 pm16 cd16 ct16 oc17 kV17 dc17 pm17 cd17 ct17 oc18 kV18 dc18 pm18 cd18 ct18 oc19 kV19 dc19 pm19 cd19 ct19 : Value}
    (a1 : PySem.W.nsIn K mainGlobals "_law_feed" = some (some (.ref f1))) (l1 : K.lookup f1 = some ⟨oc1, od1, .func (PySem.W.fnOf "_law_feed" "_law_feed" (defArgs s__law_feed) (defBody s__law_feed) (defScope s__law_feed) .none kV1 dc1 pm1 an1 cd1 ct1), sl1⟩)
    (c1 : PySem.W.codeIn K cd1 "_law_feed" = true) (k1 : PySem.W.keepIn K (.ref f1) = true)
    (a2 : PySem.W.nsIn K mainGlobals "_law_is_part" = some (some (.ref f2))) (l2 : K.lookup f2 = some ⟨oc2, od2, .func (PySem.W.fnOf "_law_is_part" "_law_is_part" (defArgs s__law_is_part) (defBody s__law_is_part) (defScope s__law_is_part) .none kV2 dc2 pm2 an2 cd2 ct2), sl2⟩)
    (c2 : PySem.W.codeIn K cd2 "_law_is_part" = true) (k2 : PySem.W.keepIn K (.ref f2) = true)
    (a3 : PySem.W.nsIn K mainGlobals "_law_minimal" = some (some (.ref f3))) (l3 : K.lookup f3 = some ⟨oc3, od3, .func (PySem.W.fnOf "_law_minimal" "_law_minimal" (defArgs s__law_minimal) (defBody s__law_minimal) (defScope s__law_minimal) .none kV3 dc3 pm3 an3 cd3 ct3), sl3⟩)
    (c3 : PySem.W.codeIn K cd3 "_law_minimal" = true) (k3 : PySem.W.keepIn K (.ref f3) = true)
    (a4 : PySem.W.nsIn K mainGlobals "_law_draw" = some (some (.ref f4))) (l4 : K.lookup f4 = some ⟨oc4, od4, .func (PySem.W.fnOf "_law_draw" "_law_draw" (defArgs s__law_draw) (defBody s__law_draw) (defScope s__law_draw) .none kV4 dc4 pm4 an4 cd4 ct4), sl4⟩)
    (c4 : PySem.W.codeIn K cd4 "_law_draw" = true) (k4 : PySem.W.keepIn K (.ref f4) = true)
    (a5 : PySem.W.nsIn K mainGlobals "_law_sets_of" = some (some (.ref f5))) (l5 : K.lookup f5 = some ⟨oc5, od5, .func (PySem.W.fnOf "_law_sets_of" "_law_sets_of" (defArgs s__law_sets_of) (defBody s__law_sets_of) (defScope s__law_sets_of) .none kV5 dc5 pm5 an5 cd5 ct5), sl5⟩)
    (c5 : PySem.W.codeIn K cd5 "_law_sets_of" = true) (k5 : PySem.W.keepIn K (.ref f5) = true)
    (a6 : PySem.W.nsIn K mainGlobals "_law_choice" = some (some (.ref f6))) (l6 : K.lookup f6 = some ⟨oc6, od6, .func (PySem.W.fnOf "_law_choice" "_law_choice" (defArgs s__law_choice) (defBody s__law_choice) (defScope s__law_choice) .none kV6 dc6 pm6 an6 cd6 ct6), sl6⟩)
    (c6 : PySem.W.codeIn K cd6 "_law_choice" = true) (k6 : PySem.W.keepIn K (.ref f6) = true)
    (a7 : PySem.W.nsIn K mainGlobals "_law_teams" = some (some (.ref f7))) (l7 : K.lookup f7 = some ⟨oc7, od7, .func (PySem.W.fnOf "_law_teams" "_law_teams" (defArgs s__law_teams) (defBody s__law_teams) (defScope s__law_teams) .none kV7 dc7 pm7 an7 cd7 ct7), sl7⟩)
    (c7 : PySem.W.codeIn K cd7 "_law_teams" = true) (k7 : PySem.W.keepIn K (.ref f7) = true)
    (a8 : PySem.W.nsIn K mainGlobals "_law_folk" = some (some (.ref f8))) (l8 : K.lookup f8 = some ⟨oc8, od8, .func (PySem.W.fnOf "_law_folk" "_law_folk" (defArgs s__law_folk) (defBody s__law_folk) (defScope s__law_folk) .none kV8 dc8 pm8 an8 cd8 ct8), sl8⟩)
    (c8 : PySem.W.codeIn K cd8 "_law_folk" = true) (k8 : PySem.W.keepIn K (.ref f8) = true)
    (a9 : PySem.W.nsIn K mainGlobals "_law_subset" = some (some (.ref f9))) (l9 : K.lookup f9 = some ⟨oc9, od9, .func (PySem.W.fnOf "_law_subset" "_law_subset" (defArgs s__law_subset) (defBody s__law_subset) (defScope s__law_subset) .none kV9 dc9 pm9 an9 cd9 ct9), sl9⟩)
    (c9 : PySem.W.codeIn K cd9 "_law_subset" = true) (k9 : PySem.W.keepIn K (.ref f9) = true)
    (a10 : PySem.W.nsIn K mainGlobals "_law_scene" = some (some (.ref f10))) (l10 : K.lookup f10 = some ⟨oc10, od10, .func (PySem.W.fnOf "_law_scene" "_law_scene" (defArgs s__law_scene) (defBody s__law_scene) (defScope s__law_scene) .none kV10 dc10 pm10 an10 cd10 ct10), sl10⟩)
    (c10 : PySem.W.codeIn K cd10 "_law_scene" = true) (k10 : PySem.W.keepIn K (.ref f10) = true)
    (a11 : PySem.W.nsIn K mainGlobals "_law_left" = some (some (.ref f11))) (l11 : K.lookup f11 = some ⟨oc11, od11, .func (PySem.W.fnOf "_law_left" "_law_left" (defArgs s__law_left) (defBody s__law_left) (defScope s__law_left) .none kV11 dc11 pm11 an11 cd11 ct11), sl11⟩)
    (c11 : PySem.W.codeIn K cd11 "_law_left" = true) (k11 : PySem.W.keepIn K (.ref f11) = true)
    (a12 : PySem.W.nsIn K mainGlobals "people_of" = some (some (.ref f12))) (l12 : K.lookup f12 = some ⟨oc12, od12, .func (PySem.W.fnOf "people_of" "people_of" (defArgs s_people_of) (defBody s_people_of) (defScope s_people_of) .none kV12 dc12 pm12 an12 cd12 ct12), sl12⟩)
    (c12 : PySem.W.codeIn K cd12 "people_of" = true) (k12 : PySem.W.keepIn K (.ref f12) = true)
    (a13 : PySem.W.nsIn K mainGlobals "require_people" = some (some (.ref f13))) (l13 : K.lookup f13 = some ⟨oc13, od13, .func (PySem.W.fnOf "require_people" "require_people" (defArgs s_require_people) (defBody s_require_people) (defScope s_require_people) .none kV13 dc13 pm13 an13 cd13 ct13), sl13⟩)
    (c13 : PySem.W.codeIn K cd13 "require_people" = true) (k13 : PySem.W.keepIn K (.ref f13) = true)
    (a14 : PySem.W.nsIn K mainGlobals "present_without" = some (some (.ref f14))) (l14 : K.lookup f14 = some ⟨oc14, od14, .func (PySem.W.fnOf "present_without" "present_without" (defArgs s_present_without) (defBody s_present_without) (defScope s_present_without) .none kV14 dc14 pm14 an14 cd14 ct14), sl14⟩)
    (c14 : PySem.W.codeIn K cd14 "present_without" = true) (k14 : PySem.W.keepIn K (.ref f14) = true)
    (a15 : PySem.W.nsIn K mainGlobals "left_in" = some (some (.ref f15))) (l15 : K.lookup f15 = some ⟨oc15, od15, .func (PySem.W.fnOf "left_in" "left_in" (defArgs s_left_in) (defBody s_left_in) (defScope s_left_in) .none kV15 dc15 pm15 an15 cd15 ct15), sl15⟩)
    (c15 : PySem.W.codeIn K cd15 "left_in" = true) (k15 : PySem.W.keepIn K (.ref f15) = true)
    (a16 : PySem.W.nsIn K mainGlobals "after" = some (some (.ref f16))) (l16 : K.lookup f16 = some ⟨oc16, od16, .func (PySem.W.fnOf "after" "after" (defArgs s_after) (defBody s_after) (defScope s_after) .none kV16 dc16 pm16 an16 cd16 ct16), sl16⟩)
    (c16 : PySem.W.codeIn K cd16 "after" = true) (k16 : PySem.W.keepIn K (.ref f16) = true)
    (a17 : PySem.W.nsIn K mainGlobals "_law_told" = some (some (.ref f17))) (l17 : K.lookup f17 = some ⟨oc17, od17, .func (PySem.W.fnOf "_law_told" "_law_told" (defArgs s__law_told) (defBody s__law_told) (defScope s__law_told) .none kV17 dc17 pm17 an17 cd17 ct17), sl17⟩)
    (c17 : PySem.W.codeIn K cd17 "_law_told" = true) (k17 : PySem.W.keepIn K (.ref f17) = true)
    (a18 : PySem.W.nsIn K mainGlobals "_law_agrees" = some (some (.ref f18))) (l18 : K.lookup f18 = some ⟨oc18, od18, .func (PySem.W.fnOf "_law_agrees" "_law_agrees" (defArgs s__law_agrees) (defBody s__law_agrees) (defScope s__law_agrees) .none kV18 dc18 pm18 an18 cd18 ct18), sl18⟩)
    (c18 : PySem.W.codeIn K cd18 "_law_agrees" = true) (k18 : PySem.W.keepIn K (.ref f18) = true)
    (a19 : PySem.W.nsIn K mainGlobals "law" = some (some (.ref f19))) (l19 : K.lookup f19 = some ⟨oc19, od19, .func (PySem.W.fnOf "law" "law" (defArgs s_law) (defBody s_law) (defScope s_law) .none kV19 dc19 pm19 an19 cd19 ct19), sl19⟩)
    (c19 : PySem.W.codeIn K cd19 "law" = true) (k19 : PySem.W.keepIn K (.ref f19) = true)
    (z0 : PySem.W.nsIn K mainGlobals "all" = some none)
    (z1 : PySem.W.nsIn K mainGlobals "len" = some none)
    (z2 : PySem.W.nsIn K mainGlobals "list" = some none)
    (z3 : PySem.W.nsIn K mainGlobals "min" = some none)
    (z4 : PySem.W.nsIn K mainGlobals "range" = some none)
    (z5 : PySem.W.nsIn K mainGlobals "repr" = some none)
    (z6 : PySem.W.nsIn K mainGlobals "set" = some none)
    (z7 : PySem.W.nsIn K mainGlobals "sorted" = some none)
    (z8 : PySem.W.nsIn K mainGlobals "tuple" = some none)
    : ∃ (fd : FuncData) (T : Tb), (∀ (s : Shared) (u : Value), BindsTo s fd ⟨[u], []⟩ [("_law_script", u)]) ∧ ∀ base : Heap, K.In base → base.Ns mainGlobals mg → FnG ⟨l.prog, w, K, mg, base, T⟩ 6 fa fd ["_law_script"] Fz.fs_law_2 := by
  have e := hfa.symm.trans (PySem.W.mg_of X G a19)
  have e2 : f19 = fa := (Value.ref.inj (Option.some.inj e)).symm
  subst e2
  refine ⟨PySem.W.fnOf "law" "law" (defArgs s_law) (defBody s_law) (defScope s_law) .none kV19 dc19 pm19 an19 cd19 ct19, ⟨fun _ => 0, fun _ => 0⟩, fun s v => .of_eq rfl, fun base _ _ => ?_⟩
  exact F_law (Z := ⟨l.prog, w, K, mg, base, ⟨fun _ => 0, fun _ => 0⟩⟩) ⟨f1, _, ⟨fun_mk (st := s__law_feed) l1 c1 k1, PySem.W.mg_of X G a1⟩, f2, _, ⟨fun_mk (st := s__law_is_part) l2 c2 k2, PySem.W.mg_of X G a2⟩, f3, _, ⟨fun_mk (st := s__law_minimal) l3 c3 k3, PySem.W.mg_of X G a3⟩, f4, _, ⟨fun_mk (st := s__law_draw) l4 c4 k4, PySem.W.mg_of X G a4⟩, f5, _, ⟨fun_mk (st := s__law_sets_of) l5 c5 k5, PySem.W.mg_of X G a5⟩, f6, _, ⟨fun_mk (st := s__law_choice) l6 c6 k6, PySem.W.mg_of X G a6⟩, f7, _, ⟨fun_mk (st := s__law_teams) l7 c7 k7, PySem.W.mg_of X G a7⟩, f8, _, ⟨fun_mk (st := s__law_folk) l8 c8 k8, PySem.W.mg_of X G a8⟩, f9, _, ⟨fun_mk (st := s__law_subset) l9 c9 k9, PySem.W.mg_of X G a9⟩, f10, _, ⟨fun_mk (st := s__law_scene) l10 c10 k10, PySem.W.mg_of X G a10⟩, f11, _, ⟨fun_mk (st := s__law_left) l11 c11 k11, PySem.W.mg_of X G a11⟩, f12, _, ⟨fun_mk (st := s_people_of) l12 c12 k12, PySem.W.mg_of X G a12⟩, f13, _, ⟨fun_mk (st := s_require_people) l13 c13 k13, PySem.W.mg_of X G a13⟩, f14, _, ⟨fun_mk (st := s_present_without) l14 c14 k14, PySem.W.mg_of X G a14⟩, f15, _, ⟨fun_mk (st := s_left_in) l15 c15 k15, PySem.W.mg_of X G a15⟩, f16, _, ⟨fun_mk (st := s_after) l16 c16 k16, PySem.W.mg_of X G a16⟩, f17, _, ⟨fun_mk (st := s__law_told) l17 c17 k17, PySem.W.mg_of X G a17⟩, f18, _, ⟨fun_mk (st := s__law_agrees) l18 c18 k18, PySem.W.mg_of X G a18⟩, f19, _, ⟨fun_mk (st := s_law) l19 c19 k19, PySem.W.mg_of X G a19⟩, PySem.W.mg_none_of X G z0, PySem.W.mg_none_of X G z1, PySem.W.mg_none_of X G z2, PySem.W.mg_none_of X G z3, PySem.W.mg_none_of X G z4, PySem.W.mg_none_of X G z5, PySem.W.mg_none_of X G z6, PySem.W.mg_none_of X G z7, PySem.W.mg_none_of X G z8⟩
end LK19

open PySem PySem.W PyProof.Rows
set_option maxHeartbeats 0 in
theorem PySem.Challenge.cw_crewbook_k19_several_losses_holds : PySem.Challenge.rw_crewbook_k19_several_losses.Holds := by
  w_on; o_law; k_head; (case hw => w_witness2)
  k_fill
  refine Cb.walk_g (l := PySem.Challenge.rw_crewbook_k19_several_losses) (n := 63) (k := 6) (x := "_law_script") (fs := Fz.fs_law_2) rfl (by decide) rfl ⟨rfl, by decide, by decide⟩ (fun w h Y => PySem.W.kIn_of Y) ?F Fz.law19_math
  case F =>
    intro w mg fa h KX G hmg
    refine' LK19.all_mk KX G hmg ?a1 ?l1 ?c1 ?k1 ?a2 ?l2 ?c2 ?k2 ?a3 ?l3 ?c3 ?k3 ?a4 ?l4 ?c4 ?k4 ?a5 ?l5 ?c5 ?k5 ?a6 ?l6 ?c6 ?k6 ?a7 ?l7 ?c7 ?k7 ?a8 ?l8 ?c8 ?k8 ?a9 ?l9 ?c9 ?k9 ?a10 ?l10 ?c10 ?k10 ?a11 ?l11 ?c11 ?k11 ?a12 ?l12 ?c12 ?k12 ?a13 ?l13 ?c13 ?k13 ?a14 ?l14 ?c14 ?k14 ?a15 ?l15 ?c15 ?k15 ?a16 ?l16 ?c16 ?k16 ?a17 ?l17 ?c17 ?k17 ?a18 ?l18 ?c18 ?k18 ?a19 ?l19 ?c19 ?k19 ?z0 ?z1 ?z2 ?z3 ?z4 ?z5 ?z6 ?z7 ?z8
    (case a1 => k_is); (case l1 => k_is); (case c1 => k_is); (case k1 => k_is); (case a2 => k_is); (case l2 => k_is); (case c2 => k_is); (case k2 => k_is); (case a3 => k_is); (case l3 => k_is); (case c3 => k_is); (case k3 => k_is); (case a4 => k_is); (case l4 => k_is); (case c4 => k_is); (case k4 => k_is); (case a5 => k_is); (case l5 => k_is); (case c5 => k_is); (case k5 => k_is); (case a6 => k_is); (case l6 => k_is); (case c6 => k_is); (case k6 => k_is); (case a7 => k_is); (case l7 => k_is); (case c7 => k_is); (case k7 => k_is); (case a8 => k_is); (case l8 => k_is); (case c8 => k_is); (case k8 => k_is); (case a9 => k_is); (case l9 => k_is); (case c9 => k_is); (case k9 => k_is); (case a10 => k_is); (case l10 => k_is); (case c10 => k_is); (case k10 => k_is); (case a11 => k_is); (case l11 => k_is); (case c11 => k_is); (case k11 => k_is); (case a12 => k_is); (case l12 => k_is); (case c12 => k_is); (case k12 => k_is); (case a13 => k_is); (case l13 => k_is); (case c13 => k_is); (case k13 => k_is); (case a14 => k_is); (case l14 => k_is); (case c14 => k_is); (case k14 => k_is); (case a15 => k_is); (case l15 => k_is); (case c15 => k_is); (case k15 => k_is); (case a16 => k_is); (case l16 => k_is); (case c16 => k_is); (case k16 => k_is); (case a17 => k_is); (case l17 => k_is); (case c17 => k_is); (case k17 => k_is); (case a18 => k_is); (case l18 => k_is); (case c18 => k_is); (case k18 => k_is); (case a19 => k_is); (case l19 => k_is); (case c19 => k_is); (case k19 => k_is); (case z0 => k_is); (case z1 => k_is); (case z2 => k_is); (case z3 => k_is); (case z4 => k_is); (case z5 => k_is); (case z6 => k_is); (case z7 => k_is); (case z8 => k_is)
