import PyProof.Rows.All
import HandS.ForMost
import HandS.ForExc
import HandS.Deep
import HandS.Flow
import KE.SortData
import KE.SortKeyHeap
import KE.Datum
import HandS.TupAny
import HandS.Style
import KE.DataCmp
import KE.DataIsa
import KE.DataAny
import PyProof.ReprRoads
import HandS.Star
import HandS.CallLocal
import HandS.SortKw
import HandS.SortInts
import KE.KSortKey
import PyProof.CallFns
import HandS.Small
import HandS.Exc
import KE.SortCalls
import PyProof.Rows.CallKwBuiltin
import HandS.Ends
import KE.DatumOrd
import OpenK.KWalk
import OpenK.KLine
import PySem.Challenge.RW_crewbook_k49_good_crews_told
import PyProof.ReprBulk
set_option Elab.async false
set_option linter.all false
set_option maxRecDepth 100000
/-! Cb, part A: plain data, the list memory, what a value stands for, and how states follow one another. -/
namespace Cb
open PySem PySem.Spec PyProof.Rows L2

abbrev P := PyData
/-- an object that may change -/
inductive MObj where
  | dead
  | lst (xs : List P)
  | dct (kvs : List (P × P))
def MObj.alive : MObj → Bool
  | .dead => false
  | _ => true
def MObj.toP : MObj → P
  | .dead => .none
  | .lst xs => .list xs
  | .dct kvs => .dict kvs
inductive D where
  | p (d : P)
  | obj (n : Nat)
  | fn (id : Nat)
  | ty (n : String)
  /-- the script -/
  | frz (xs : List P)
inductive Ev where
  | d (d : D)
  | new (o : MObj)
abbrev Mem := List MObj
/-- an exception: its class by number, its fields -/
structure Xc where
  cls : Nat
  fs : Option (List (Str × P))
inductive Res (α : Type) where
  | ok (a : α) (M : Mem)
  | err (x : Xc) (M : Mem)
  | bad
def Res.bind {α β : Type} : Res α → (α → Mem → Res β) → Res β
  | .ok a M, f => f a M
  | .err x M, _ => .err x M
  | .bad, _ => .bad
def Res.map {α β : Type} (f : α → β) : Res α → Res β
  | .ok a M => .ok (f a) M
  | .err x M => .err x M
  | .bad => .bad
@[simp] theorem Res.bind_ok {α β : Type} (a : α) (M : Mem) (f : α → Mem → Res β) : (Res.ok a M).bind f = f a M := rfl
@[simp] theorem Res.bind_err {α β : Type} (x : Xc) (M : Mem) (f : α → Mem → Res β) : (Res.err x M : Res α).bind f = .err x M := rfl
@[simp] theorem Res.bind_bad {α β : Type} (f : α → Mem → Res β) : (Res.bad : Res α).bind f = .bad := rfl
@[simp] theorem Res.map_ok {α β : Type} (a : α) (M : Mem) (f : α → β) : (Res.ok a M).map f = .ok (f a) M := rfl
@[simp] theorem Res.map_err {α β : Type} (x : Xc) (M : Mem) (f : α → β) : (Res.err x M : Res α).map f = .err x M := rfl
@[simp] theorem Res.map_bad {α β : Type} (f : α → β) : (Res.bad : Res α).map f = .bad := rfl
theorem Res.bind_assoc {α β γ : Type} (r : Res α) (f : α → Mem → Res β) (g : β → Mem → Res γ) : (r.bind f).bind g = r.bind fun a M => (f a M).bind g := by
  cases r <;> rfl
def Ev.stl : Ev → D
  | .d x => x
  | .new o => .p o.toP
@[simp] theorem Ev.stl_d (x : D) : (Ev.d x).stl = x := rfl
@[simp] theorem Ev.stl_new (o : MObj) : (Ev.new o).stl = .p o.toP := rfl
def stl (r : Res Ev) : Res D := r.map Ev.stl
@[simp] theorem stl_ok (e : Ev) (M : Mem) : stl (.ok e M) = .ok e.stl M := rfl
@[simp] theorem stl_err (x : Xc) (M : Mem) : stl (.err x M) = .err x M := rfl
@[simp] theorem stl_bad : stl .bad = .bad := rfl

/-! ### what a value stands for -/
def keyP : Key → P
  | .inl i => .int i
  | .inr x => .str x
mutual
/-- the value v reads as the data d; Fb: what may change, or is being made -/
inductive Rp (K : PySem.W.Frag) (H : Hp) (Fb : Addr → Prop) : V → P → Prop
  | non : Rp K H Fb .non .none
  | bl (b : Bool) : Rp K H Fb (.bl b) (.bool b)
  | int (i : Int) : Rp K H Fb (.int i) (.int i)
  | str (x : Str) (h : x.length ≤ sizeLine) : Rp K H Fb (.str x) (.str x)
  | lst {a : Addr} {xs : List V} {ds : List P} (h : H a = some (.lst xs)) (hn : ¬ Fb a) (r : RpAll K H Fb xs ds) : Rp K H Fb (.ref a) (.list ds)
  | tup {a : Addr} {xs : List V} {ds : List P} (h : Rd H a (.tup xs)) (hn : ¬ Fb a) (r : RpAll K H Fb xs ds) : Rp K H Fb (.ref a) (.tuple ds)
  | tupK {a : Addr} {xs : List V} {ds : List P} {o : Obj} {its : Array Value} {n : Nat} (h1 : K.lookup a = some o) (h2 : o.cls = .type "tuple") (h3 : o.data = .seq its n) (h4 : its.size ≤ sizeLine) (h5 : Vals xs its.toList) (r : RpAll K H Fb xs ds) : Rp K H Fb (.ref a) (.tuple ds)
  | dct {a : Addr} {kvs : List (Key × V)} {ds : List (P × P)} (h : Rd H a (.dK kvs)) (hn : ¬ Fb a) (r : RpKV K H Fb kvs ds) : Rp K H Fb (.ref a) (.dict ds)
inductive RpAll (K : PySem.W.Frag) (H : Hp) (Fb : Addr → Prop) : List V → List P → Prop
  | nil : RpAll K H Fb [] []
  | cons {v : V} {vs : List V} {d : P} {ds : List P} (h : Rp K H Fb v d) (t : RpAll K H Fb vs ds) : RpAll K H Fb (v :: vs) (d :: ds)
inductive RpKV (K : PySem.W.Frag) (H : Hp) (Fb : Addr → Prop) : List (Key × V) → List (P × P) → Prop
  | nil : RpKV K H Fb [] []
  | cons {k : Key} {v : V} {vs : List (Key × V)} {d : P} {ds : List (P × P)} (h : Rp K H Fb v d) (t : RpKV K H Fb vs ds) : RpKV K H Fb ((k, v) :: vs) ((keyP k, d) :: ds)
end

/-- the abstract heap goes on: what was tracked and known unchanging stays -/
structure Keeps (H : Hp) (Fb : Addr → Prop) (H' : Hp) (Fb' : Addr → Prop) : Prop where
  keep : ∀ a o, H a = some o → ¬ Fb a → H' a = some o ∧ ¬ Fb' a
theorem Keeps.rd {H H' : Hp} {Fb Fb' : Addr → Prop} (k : Keeps H Fb H' Fb') {a : Addr} {o : HO} (h : Rd H a o) (hn : ¬ Fb a) : Rd H' a o ∧ ¬ Fb' a := by
  rcases h with h | ⟨u, h⟩
  · exact ⟨.inl (k.keep a _ h hn).1, (k.keep a _ h hn).2⟩
  · exact ⟨.inr ⟨u, (k.keep a _ h hn).1⟩, (k.keep a _ h hn).2⟩
theorem Keeps.trans {H H' H2 : Hp} {Fb Fb' Fb2 : Addr → Prop} (k : Keeps H Fb H' Fb') (j : Keeps H' Fb' H2 Fb2) : Keeps H Fb H2 Fb2 :=
  ⟨fun a o h n => j.keep a o (k.keep a o h n).1 (k.keep a o h n).2⟩
theorem Keeps.refl {H : Hp} {Fb : Addr → Prop} : Keeps H Fb H Fb := ⟨fun _ _ h n => ⟨h, n⟩⟩
mutual
theorem Rp.ext {K : PySem.W.Frag} {H H' : Hp} {Fb Fb' : Addr → Prop} (k : Keeps H Fb H' Fb') : ∀ (d : P) (v : V), Rp K H Fb v d → Rp K H' Fb' v d
  | .none, _, h => by cases h; exact .non
  | .bool _, _, h => by cases h; exact .bl _
  | .int _, _, h => by cases h; exact .int _
  | .str _, _, h => by cases h with | str _ h => exact .str _ h
  | .list ds, _, h => by cases h with | lst h hn r => exact .lst (k.keep _ _ h hn).1 (k.keep _ _ h hn).2 (RpAll.ext k ds _ r)
  | .tuple ds, _, h => by
    cases h with
    | tup h hn r => exact .tup (k.rd h hn).1 (k.rd h hn).2 (RpAll.ext k ds _ r)
    | tupK h1 h2 h3 h4 h5 r => exact .tupK h1 h2 h3 h4 h5 (RpAll.ext k ds _ r)
  | .dict ds, _, h => by cases h with | dct h hn r => exact .dct (k.rd h hn).1 (k.rd h hn).2 (RpKV.ext k ds _ r)
theorem RpAll.ext {K : PySem.W.Frag} {H H' : Hp} {Fb Fb' : Addr → Prop} (k : Keeps H Fb H' Fb') : ∀ (ds : List P) (vs : List V), RpAll K H Fb vs ds → RpAll K H' Fb' vs ds
  | [], _, h => by cases h; exact .nil
  | d :: ds, _, h => by cases h with | cons h t => exact .cons (Rp.ext k d _ h) (RpAll.ext k ds _ t)
theorem RpKV.ext {K : PySem.W.Frag} {H H' : Hp} {Fb Fb' : Addr → Prop} (k : Keeps H Fb H' Fb') : ∀ (ds : List (P × P)) (vs : List (Key × V)), RpKV K H Fb vs ds → RpKV K H' Fb' vs ds
  | [], _, h => by cases h; exact .nil
  | (_, d) :: ds, _, h => by cases h with | cons h t => exact .cons (Rp.ext k d _ h) (RpKV.ext k ds _ t)
end
section
variable {K : PySem.W.Frag} {H H' : Hp} {Fb Fb' : Addr → Prop}
theorem RpAll.length : ∀ {vs : List V} {ds : List P}, RpAll K H Fb vs ds → vs.length = ds.length
  | _, _, .nil => rfl
  | _, _, .cons _ t => by rw [List.length_cons, List.length_cons, t.length]
theorem RpAll.append : ∀ {vs : List V} {ds : List P} {us : List V} {es : List P}, RpAll K H Fb vs ds → RpAll K H Fb us es → RpAll K H Fb (vs ++ us) (ds ++ es)
  | _, _, _, _, .nil, r => r
  | _, _, _, _, .cons h t, r => .cons h (RpAll.append t r)
theorem RpAll.get : ∀ {vs : List V} {ds : List P} {i : Nat} {d : P}, RpAll K H Fb vs ds → ds[i]? = some d → ∃ v, vs[i]? = some v ∧ Rp K H Fb v d
  | _, _, _, _, .nil, e => by simp at e
  | _, _, 0, _, .cons h _, e => by simp at e; subst e; exact ⟨_, rfl, h⟩
  | _, _, i + 1, d, .cons _ t, e => by
    obtain ⟨v, h1, h2⟩ := RpAll.get (i := i) (d := d) t (by simpa using e)
    exact ⟨v, by simpa using h1, h2⟩
theorem RpAll.getV : ∀ {vs : List V} {ds : List P} {i : Nat} {v : V}, RpAll K H Fb vs ds → vs[i]? = some v → ∃ d, ds[i]? = some d ∧ Rp K H Fb v d
  | _, _, _, _, .nil, e => by simp at e
  | _, _, 0, _, .cons h _, e => by simp at e; subst e; exact ⟨_, rfl, h⟩
  | _, _, i + 1, v, .cons _ t, e => by
    obtain ⟨d, h1, h2⟩ := RpAll.getV (i := i) (v := v) t (by simpa using e)
    exact ⟨d, by simpa using h1, h2⟩
theorem RpAll.take : ∀ {vs : List V} {ds : List P} (n : Nat), RpAll K H Fb vs ds → RpAll K H Fb (vs.take n) (ds.take n)
  | _, _, 0, _ => by simp; exact .nil
  | _, _, _ + 1, .nil => .nil
  | _, _, n + 1, .cons h t => .cons h (RpAll.take n t)
theorem RpAll.drop : ∀ {vs : List V} {ds : List P} (n : Nat), RpAll K H Fb vs ds → RpAll K H Fb (vs.drop n) (ds.drop n)
  | _, _, 0, r => r
  | _, _, _ + 1, .nil => .nil
  | _, _, n + 1, .cons _ t => RpAll.drop n t
theorem RpAll.set {v : V} {d : P} (r : Rp K H Fb v d) : ∀ {vs : List V} {ds : List P} (n : Nat), RpAll K H Fb vs ds → RpAll K H Fb (vs.set n v) (ds.set n d)
  | _, _, _, .nil => .nil
  | _, _, 0, .cons _ t => .cons r t
  | _, _, n + 1, .cons h t => .cons h (RpAll.set r n t)
theorem RpAll.eraseIdx : ∀ {vs : List V} {ds : List P} (n : Nat), RpAll K H Fb vs ds → RpAll K H Fb (vs.eraseIdx n) (ds.eraseIdx n)
  | _, _, _, .nil => .nil
  | _, _, 0, .cons _ t => t
  | _, _, n + 1, .cons h t => .cons h (RpAll.eraseIdx n t)
end

/-! ### the memory -/
def Lv (L : List Addr) (M : Mem) (a : Addr) : Prop := ∃ (n : Nat) (o : MObj), L[n]? = some a ∧ M[n]? = some o ∧ o.alive = true
def Fbd (L : List Addr) (M : Mem) (G : Addr → Prop) (a : Addr) : Prop := Lv L M a ∨ G a
/-- what stands at a live object's address -/
inductive MC (K : PySem.W.Frag) (H : Hp) (Fb : Addr → Prop) : HO → MObj → Prop
  | lst {xs : List V} {ds : List P} (r : RpAll K H Fb xs ds) : MC K H Fb (.lst xs) (.lst ds)
  | dct {kvs : List (Key × V)} {ds : List (P × P)} (r : RpKV K H Fb kvs ds) : MC K H Fb (.dK kvs) (.dct ds)
theorem MC.ext {K : PySem.W.Frag} {H H' : Hp} {Fb Fb' : Addr → Prop} (k : Keeps H Fb H' Fb') {ho : HO} {o : MObj} (h : MC K H Fb ho o) : MC K H' Fb' ho o := by
  cases h with
  | lst r => exact .lst (RpAll.ext k _ _ r)
  | dct r => exact .dct (RpKV.ext k _ _ r)
theorem MC.alive {K : PySem.W.Frag} {H : Hp} {Fb : Addr → Prop} {ho : HO} {o : MObj} (h : MC K H Fb ho o) : o.alive = true := by cases h <;> rfl
structure MR (K : PySem.W.Frag) (H : Hp) (G : Addr → Prop) (L : List Addr) (M : Mem) : Prop where
  len : L.length = M.length
  nd : L.Nodup
  tr : ∀ a, a ∈ L → H a ≠ none
  ng : ∀ a, a ∈ L → ¬ G a
  tg : ∀ a, G a → H a ≠ none
  at_ : ∀ (n : Nat) (a : Addr) (o : MObj), L[n]? = some a → M[n]? = some o → o.alive = true → ∃ ho, H a = some ho ∧ MC K H (Fbd L M G) ho o
/-- how a state follows another -/
structure Nxt (H : Hp) (L : List Addr) (M : Mem) (H' : Hp) (L' : List Addr) (M' : Mem) : Prop where
  pre : ∃ R, L' = L ++ R
  keep : ∀ a o, H a = some o → ¬ Lv L M a → H' a = some o
  new : ∀ a, Lv L' M' a → Lv L M a ∨ H a = none
section
variable {K : PySem.W.Frag} {H H' H2 : Hp} {G : Addr → Prop} {L L' L2 : List Addr} {M M' M2 : Mem}
theorem Nxt.refl : Nxt H L M H L M := ⟨⟨[], by simp⟩, fun _ _ h _ => h, fun _ h => .inl h⟩
theorem Nxt.trans (a : Nxt H L M H' L' M') (b : Nxt H' L' M' H2 L2 M2) : Nxt H L M H2 L2 M2 := by
  refine ⟨?_, fun c o h n => b.keep c o (a.keep c o h n) fun z => ?_, fun c h => ?_⟩
  · obtain ⟨R, e⟩ := a.pre
    obtain ⟨R2, e2⟩ := b.pre
    exact ⟨R ++ R2, by rw [e2, e, List.append_assoc]⟩
  · rcases a.new c z with q | q
    · exact n q
    · rw [h] at q; cases q
  · rcases b.new c h with q | q
    · exact a.new c q
    · cases e : H c with
      | none => exact .inr rfl
      | some o =>
        by_cases n : Lv L M c
        · exact .inl n
        · rw [a.keep c o e n] at q; cases q
theorem Nxt.keeps (x : Nxt H L M H' L' M') : Keeps H (Fbd L M G) H' (Fbd L' M' G) := ⟨fun a o h n => by
  have n1 : ¬ Lv L M a := fun z => n (.inl z)
  refine ⟨x.keep a o h n1, fun z => ?_⟩
  rcases z with z | z
  · rcases x.new a z with q | q
    · exact n1 q
    · rw [h] at q; cases q
  · exact n (.inr z)⟩
theorem Nxt.get (x : Nxt H L M H' L' M') {n : Nat} {a : Addr} (h : L[n]? = some a) : L'[n]? = some a := by
  obtain ⟨R, e⟩ := x.pre
  rw [e, List.getElem?_append_left (List.getElem?_eq_some_iff.mp h).1]
  exact h
theorem MR.live (m : MR K H G L M) {a : Addr} (h : Lv L M a) : ∃ ho o, H a = some ho ∧ MC K H (Fbd L M G) ho o := by
  obtain ⟨n, o, h1, h2, h3⟩ := h
  obtain ⟨ho, e, c⟩ := m.at_ n a o h1 h2 h3
  exact ⟨ho, o, e, c⟩
theorem Lv.mem {a : Addr} (h : Lv L M a) : a ∈ L := by
  obtain ⟨n, o, h1, _⟩ := h
  exact List.mem_of_getElem? h1
theorem nodup_get {L : List Addr} (h : L.Nodup) {i j : Nat} {a : Addr} (x : L[i]? = some a) (y : L[j]? = some a) : i = j := by
  obtain ⟨h1, e1⟩ := List.getElem?_eq_some_iff.mp x
  obtain ⟨h2, e2⟩ := List.getElem?_eq_some_iff.mp y
  exact (List.getElem_inj h).mp (e1.trans e2.symm)
/-- an address not tracked so far is tracked -/
theorem Nxt.fresh {p : Addr} {ho : HO} (hp : H p = none) : Nxt H L M (upd H p ho) L M :=
  ⟨⟨[], by simp⟩, fun a o h _ => by rw [upd_ne (ne_of_none h hp)]; exact h, fun _ h => .inl h⟩
theorem MR.fresh {p : Addr} {ho : HO} (m : MR K H G L M) (hp : H p = none) : MR K (upd H p ho) G L M := by
  refine ⟨m.len, m.nd, fun a h => ?_, m.ng, fun a h => ?_, fun n a o h1 h2 h3 => ?_⟩
  · have := m.tr a h
    rw [upd_ne (fun e => this (by rw [e]; exact hp))]; exact this
  · have := m.tg a h
    rw [upd_ne (fun e => this (by rw [e]; exact hp))]; exact this
  · obtain ⟨ho', e, c⟩ := m.at_ n a o h1 h2 h3
    exact ⟨ho', by rw [upd_ne (ne_of_none e hp)]; exact e, c.ext (Nxt.fresh hp).keeps⟩
/-- a new object that may change -/
theorem lv_alloc {p a : Addr} {o : MObj} (hl : L.length = M.length) (h : Lv (L ++ [p]) (M ++ [o]) a) : Lv L M a ∨ a = p := by
  obtain ⟨n, o', h1, h2, h3⟩ := h
  by_cases hn : n < L.length
  · rw [List.getElem?_append_left hn] at h1
    rw [List.getElem?_append_left (by omega)] at h2
    exact .inl ⟨n, o', h1, h2, h3⟩
  · have hlt := (List.getElem?_eq_some_iff.mp h1).1
    rw [List.length_append, List.length_singleton] at hlt
    have : n = L.length := by omega
    subst this
    simp at h1
    exact .inr h1.symm
theorem lv_app {p a : Addr} {o : MObj} (h : Lv L M a) : Lv (L ++ [p]) (M ++ [o]) a := by
  obtain ⟨n, o', h1, h2, h3⟩ := h
  exact ⟨n, o', by rw [List.getElem?_append_left (List.getElem?_eq_some_iff.mp h1).1]; exact h1, by rw [List.getElem?_append_left (List.getElem?_eq_some_iff.mp h2).1]; exact h2, h3⟩
theorem Nxt.alloc {p : Addr} {ho : HO} {o : MObj} (hl : L.length = M.length) (hp : H p = none) : Nxt H L M (upd H p ho) (L ++ [p]) (M ++ [o]) :=
  ⟨⟨[p], rfl⟩, fun a u h _ => by rw [upd_ne (ne_of_none h hp)]; exact h, fun a h => (lv_alloc hl h).elim .inl fun e => .inr (by rw [e]; exact hp)⟩
theorem MR.alloc {p : Addr} {ho : HO} {o : MObj} (m : MR K H G L M) (hp : H p = none) (c : MC K H (Fbd L M G) ho o) : MR K (upd H p ho) G (L ++ [p]) (M ++ [o]) := by
  have pn : p ∉ L := fun h => m.tr p h hp
  have kp : Keeps H (Fbd L M G) (upd H p ho) (Fbd (L ++ [p]) (M ++ [o]) G) := (Nxt.alloc (o := o) m.len hp).keeps
  refine ⟨by simp [m.len], ?_, fun a h => ?_, fun a h => ?_, fun a h => ?_, fun n a o' h1 h2 h3 => ?_⟩
  · rw [List.nodup_append]
    exact ⟨m.nd, by simp, fun a ha b hb e => by simp at hb; subst hb; subst e; exact pn ha⟩
  · rcases List.mem_append.mp h with h | h
    · have := m.tr a h
      rw [upd_ne (fun e => this (by rw [e]; exact hp))]; exact this
    · simp at h; subst h; rw [upd_same]; exact fun z => nomatch z
  · rcases List.mem_append.mp h with h | h
    · exact m.ng a h
    · simp at h; subst h; exact fun g => m.tg _ g hp
  · have := m.tg a h
    rw [upd_ne (fun e => this (by rw [e]; exact hp))]; exact this
  · by_cases hn : n < L.length
    · rw [List.getElem?_append_left hn] at h1
      rw [List.getElem?_append_left (by rw [← m.len]; exact hn)] at h2
      obtain ⟨ho', e, c'⟩ := m.at_ n a o' h1 h2 h3
      exact ⟨ho', by rw [upd_ne (ne_of_none e hp)]; exact e, c'.ext kp⟩
    · have hlt := (List.getElem?_eq_some_iff.mp h1).1
      rw [List.length_append, List.length_singleton] at hlt
      have : n = L.length := by omega
      subst this
      simp at h1
      rw [m.len] at h2
      simp at h2
      subst h1; subst h2
      exact ⟨ho, upd_same, c.ext kp⟩
/-- a live object changes -/
theorem lv_set {n : Nat} {a b : Addr} {o : MObj} (h1 : L[n]? = some a) (hlv : Lv L M a) (h : Lv L (M.set n o) b) : Lv L M b := by
  obtain ⟨i, o', e1, e2, e3⟩ := h
  by_cases hi : n = i
  · subst hi
    rw [h1] at e1; cases e1
    exact hlv
  · rw [List.getElem?_set_ne hi] at e2
    exact ⟨i, o', e1, e2, e3⟩
theorem lv_set' {n : Nat} {b : Addr} {o : MObj} (ha : o.alive = true) (h : Lv L M b) : Lv L (M.set n o) b := by
  obtain ⟨i, o', e1, e2, e3⟩ := h
  by_cases hi : n = i
  · subst hi
    refine ⟨n, o, e1, ?_, ha⟩
    rw [List.getElem?_set_self (List.getElem?_eq_some_iff.mp e2).1]
  · exact ⟨i, o', e1, by rw [List.getElem?_set_ne hi]; exact e2, e3⟩
theorem Nxt.write {n : Nat} {a : Addr} {o : MObj} {ho : HO} (h1 : L[n]? = some a) (hlv : Lv L M a) : Nxt H L M (upd H a ho) L (M.set n o) :=
  ⟨⟨[], by simp⟩, fun b u h hn => by rw [upd_ne (fun e => hn (by rw [e]; exact hlv))]; exact h, fun b h => .inl (lv_set h1 hlv h)⟩
theorem MR.write {n : Nat} {a : Addr} {o : MObj} {ho : HO} (m : MR K H G L M) (h1 : L[n]? = some a) (hlv : Lv L M a) (c : MC K H (Fbd L M G) ho o) : MR K (upd H a ho) G L (M.set n o) := by
  have kp : Keeps H (Fbd L M G) (upd H a ho) (Fbd L (M.set n o) G) := (Nxt.write (o := o) h1 hlv).keeps
  have hn : n < M.length := by rw [← m.len]; exact (List.getElem?_eq_some_iff.mp h1).1
  refine ⟨by simp [m.len], m.nd, fun b h => ?_, m.ng, fun b h => ?_, fun i b o' e1 e2 e3 => ?_⟩
  · by_cases e : b = a
    · subst e; rw [upd_same]; exact fun z => nomatch z
    · rw [upd_ne e]; exact m.tr b h
  · by_cases e : b = a
    · subst e; rw [upd_same]; exact fun z => nomatch z
    · rw [upd_ne e]; exact m.tg b h
  · by_cases hi : n = i
    · subst hi
      rw [h1] at e1; cases e1
      rw [List.getElem?_set_self hn] at e2; cases e2
      exact ⟨ho, upd_same, c.ext kp⟩
    · rw [List.getElem?_set_ne hi] at e2
      obtain ⟨ho', q, c'⟩ := m.at_ i b o' e1 e2 e3
      refine ⟨ho', ?_, c'.ext kp⟩
      rw [upd_ne (fun e => hi (nodup_get m.nd h1 (by rw [← e]; exact e1)))]
      exact q
/-- a live object changes no more -/
theorem Nxt.freeze {n : Nat} : Nxt H L M H L (M.set n .dead) :=
  ⟨⟨[], by simp⟩, fun _ _ h _ => h, fun b h => .inl (by
    obtain ⟨i, o', e1, e2, e3⟩ := h
    by_cases hi : n = i
    · subst hi
      by_cases hn : n < M.length
      · rw [List.getElem?_set_self hn] at e2; cases e2; cases e3
      · rw [List.getElem?_eq_none (by simpa using hn)] at e2; cases e2
    · rw [List.getElem?_set_ne hi] at e2
      exact ⟨i, o', e1, e2, e3⟩)⟩
theorem MR.freeze {n : Nat} (m : MR K H G L M) : MR K H G L (M.set n .dead) := by
  refine ⟨by simp [m.len], m.nd, m.tr, m.ng, m.tg, fun i b o' e1 e2 e3 => ?_⟩
  by_cases hi : n = i
  · subst hi
    by_cases hn : n < M.length
    · rw [List.getElem?_set_self hn] at e2; cases e2; cases e3
    · rw [List.getElem?_eq_none (by simpa using hn)] at e2; cases e2
  · rw [List.getElem?_set_ne hi] at e2
    obtain ⟨ho', q, c'⟩ := m.at_ i b o' e1 e2 e3
    exact ⟨ho', q, c'.ext Nxt.freeze.keeps⟩
theorem not_lv_freeze {n : Nat} {a : Addr} (m : MR K H G L M) (h1 : L[n]? = some a) : ¬ Fbd L (M.set n .dead) G a := by
  rintro (⟨i, o', e1, e2, e3⟩ | g)
  · have : n = i := nodup_get m.nd h1 e1
    subst this
    by_cases hn : n < M.length
    · rw [List.getElem?_set_self hn] at e2; cases e2; cases e3
    · rw [List.getElem?_eq_none (by simpa using hn)] at e2; cases e2
  · exact m.ng a (List.mem_of_getElem? h1) g
theorem MR.frozen {n : Nat} {a : Addr} {o : MObj} (m : MR K H G L M) (h1 : L[n]? = some a) (h2 : M[n]? = some o) (h3 : o.alive = true) : Rp K H (Fbd L (M.set n .dead) G) (.ref a) o.toP := by
  obtain ⟨ho, e, c⟩ := m.at_ n a o h1 h2 h3
  have c' := c.ext (Nxt.freeze (n := n) (H := H) (L := L) (M := M)).keeps
  cases c' with
  | lst r => exact .lst e (not_lv_freeze m h1) r
  | dct r => exact .dct (.inl e) (not_lv_freeze m h1) r
/-- the objects made last are let go -/
theorem lv_take {k : Nat} {a : Addr} (h : Lv (L.take k) (M.take k) a) : Lv L M a := by
  obtain ⟨i, o, e1, e2, e3⟩ := h
  have hi : i < k := by
    have := (List.getElem?_eq_some_iff.mp e1).1
    rw [List.length_take] at this
    omega
  rw [List.getElem?_take_of_lt hi] at e1 e2
  exact ⟨i, o, e1, e2, e3⟩
theorem keeps_take {k : Nat} : Keeps H (Fbd L M G) H (Fbd (L.take k) (M.take k) G) := ⟨fun a o h n => ⟨h, fun z => n (z.elim (fun q => .inl (lv_take q)) .inr)⟩⟩
theorem MR.take {k : Nat} (m : MR K H G L M) : MR K H G (L.take k) (M.take k) := by
  refine ⟨by simp [m.len], m.nd.sublist (List.take_sublist _ _), fun a h => m.tr a (List.mem_of_mem_take h), fun a h => m.ng a (List.mem_of_mem_take h), m.tg, fun i b o' e1 e2 e3 => ?_⟩
  have hi : i < k := by
    have := (List.getElem?_eq_some_iff.mp e1).1
    rw [List.length_take] at this
    omega
  rw [List.getElem?_take_of_lt hi] at e1 e2
  obtain ⟨ho, q, c⟩ := m.at_ i b o' e1 e2 e3
  exact ⟨ho, q, c.ext keeps_take⟩
theorem Nxt.take (x : Nxt H L M H' L' M') (hl : L.length = M.length) : Nxt H L M H' L (M'.take M.length) := by
  obtain ⟨R, e⟩ := x.pre
  refine ⟨⟨[], by simp⟩, x.keep, fun a h => x.new a ?_⟩
  obtain ⟨i, o, e1, e2, e3⟩ := h
  have hi : i < M.length := by rw [← hl]; exact (List.getElem?_eq_some_iff.mp e1).1
  rw [List.getElem?_take_of_lt hi] at e2
  exact ⟨i, o, by rw [e, List.getElem?_append_left (by rw [hl]; exact hi)]; exact e1, e2, e3⟩
theorem MR.takeTo (x : Nxt H L M H' L' M') (hl : L.length = M.length) (m : MR K H' G L' M') : MR K H' G L (M'.take M.length) := by
  obtain ⟨R, e⟩ := x.pre
  have := m.take (k := M.length)
  rw [e, List.take_append_of_le_length (by omega), ← hl, List.take_length] at this
  rw [← hl]; exact this
/-- something is hidden: it is being made -/
theorem MR.hide {p : Addr} {ho : HO} (m : MR K H G L M) (hp : H p = none) : MR K (upd H p ho) (fun a => G a ∨ a = p) L M := by
  have pn : p ∉ L := fun h => m.tr p h hp
  have kp : Keeps H (Fbd L M G) (upd H p ho) (Fbd L M fun a => G a ∨ a = p) := ⟨fun a o h n => ⟨by rw [upd_ne (ne_of_none h hp)]; exact h, fun z => by
    rcases z with z | z | z
    · exact n (.inl z)
    · exact n (.inr z)
    · subst z; rw [h] at hp; cases hp⟩⟩
  refine ⟨m.len, m.nd, fun a h => ?_, fun a h g => ?_, fun a h => ?_, fun n a o h1 h2 h3 => ?_⟩
  · have := m.tr a h
    rw [upd_ne (fun e => this (by rw [e]; exact hp))]; exact this
  · rcases g with g | g
    · exact m.ng a h g
    · subst g; exact pn h
  · rcases h with h | h
    · have := m.tg a h
      rw [upd_ne (fun e => this (by rw [e]; exact hp))]; exact this
    · subst h; rw [upd_same]; exact fun z => nomatch z
  · obtain ⟨ho', e, c⟩ := m.at_ n a o h1 h2 h3
    exact ⟨ho', by rw [upd_ne (ne_of_none e hp)]; exact e, c.ext kp⟩
theorem keeps_hide {p : Addr} {ho : HO} (hp : H p = none) : Keeps H (Fbd L M G) (upd H p ho) (Fbd L M fun a => G a ∨ a = p) := ⟨fun a o h n => ⟨by rw [upd_ne (ne_of_none h hp)]; exact h, fun z => by
    rcases z with z | z | z
    · exact n (.inl z)
    · exact n (.inr z)
    · subst z; rw [h] at hp; cases hp⟩⟩
end
end Cb

set_option Elab.async false
set_option linter.all false
set_option maxRecDepth 100000
/-! Cb, part B: what is wanted behind a step (Post), the readings of expressions, tests, arguments, statements; how they are put together. -/
namespace Cb
open PySem PySem.Spec PyProof.Rows L2

/-- where the program's defs and classes stand -/
structure Tb where
  F : Nat → Addr
  C : Nat → Addr
/-- a list that stays: one of the heap, or one of the program's own -/
def FL (K : PySem.W.Frag) (H : Hp) (Fb : Addr → Prop) (a : Addr) (xs : List V) : Prop :=
  (Rd H a (.lst xs) ∧ ¬ Fb a) ∨ ∃ (ob : Obj) (its : Array Value) (c : Nat), K.lookup a = some ob ∧ ob.cls = .type "list" ∧ ob.dict = none ∧ ob.data = .seq its c ∧ its.size ≤ sizeLine ∧ Vals xs its.toList
theorem FL.ext {K : PySem.W.Frag} {H H' : Hp} {Fb Fb' : Addr → Prop} {a : Addr} {xs : List V} (k : Keeps H Fb H' Fb') (h : FL K H Fb a xs) : FL K H' Fb' a xs := h.elim (fun z => .inl (k.rd z.1 z.2)) .inr
theorem FL.sq {K : PySem.W.Frag} {H : Hp} {Fb : Addr → Prop} {a : Addr} {xs : List V} (h : FL K H Fb a xs) : SqL K H a xs := h.elim (fun z => .inl z.1) .inr
section
variable (K : PySem.W.Frag) (T : Tb)
inductive RD (H : Hp) (G : Addr → Prop) (L : List Addr) (M : Mem) : V → D → Prop
  | p {v : V} {d : P} (h : Rp K H (Fbd L M G) v d) : RD H G L M v (.p d)
  | obj {n : Nat} {a : Addr} (h : L[n]? = some a) : RD H G L M (.ref a) (.obj n)
  | fn (id : Nat) : RD H G L M (.ref (T.F id)) (.fn id)
  | ty (n : String) : RD H G L M (.ty n) (.ty n)
  | frz {a : Addr} {vs : List V} {xs : List P} (h : FL K H (Fbd L M G) a vs) (r : RpAll K H (Fbd L M G) vs xs) : RD H G L M (.ref a) (.frz xs)
abbrev RDs (H : Hp) (G : Addr → Prop) (L : List Addr) (M : Mem) : List V → List D → Prop := Paired (RD K T H G L M)
/-- an exception's fields -/
def XF (H : Hp) (Fb : Addr → Prop) : List (Str × V) → List (Str × P) → Prop := Paired fun a b => a.1 = b.1 ∧ Rp K H Fb a.2 b.2
def XR (H : Hp) (Fb : Addr → Prop) (x : Xc) (cls : Value) (d : Option Addr) : Prop :=
  cls = .ref (T.C x.cls) ∧ match x.fs with
    | none => d = none
    | some fs => ∃ b us, d = some b ∧ H b = some (.xd us) ∧ ¬ Fb b ∧ XF K H Fb us fs
/-- what is wanted behind a step that gives a value -/
def Post (H : Hp) (G : Addr → Prop) (L : List Addr) (M : Mem) (r : Res Ev) (Q : VK) (E : XK) : Prop :=
  match r with
  | .ok (.d x) M' => ∀ v H' L', Nxt H L M H' L' M' → MR K H' G L' M' → RD K T H' G L' M' v x → Q v H'
  | .ok (.new o) M' => ∀ p ho H' L', H' p = none → Nxt H L M H' L' M' → MR K H' G L' M' → MC K H' (Fbd L' M' G) ho o → Q (.ref p) (upd H' p ho)
  | .err x M' => ∀ cls d H' L', Nxt H L M H' L' M' → MR K H' G L' M' → XR K T H' (Fbd L' M' G) x cls d → E cls d H'
  | .bad => False
/-- .. a truth value, several values -/
def PostT (H : Hp) (G : Addr → Prop) (L : List Addr) (M : Mem) (r : Res Bool) (Q : Bool → Hp → Prop) (E : XK) : Prop :=
  match r with
  | .ok b M' => ∀ H' L', Nxt H L M H' L' M' → MR K H' G L' M' → Q b H'
  | .err x M' => ∀ cls d H' L', Nxt H L M H' L' M' → MR K H' G L' M' → XR K T H' (Fbd L' M' G) x cls d → E cls d H'
  | .bad => False
def PostA (H : Hp) (G : Addr → Prop) (L : List Addr) (M : Mem) (r : Res (List D)) (Q : List V → Hp → Prop) (E : XK) : Prop :=
  match r with
  | .ok ds M' => ∀ vs H' L', Nxt H L M H' L' M' → MR K H' G L' M' → RDs K T H' G L' M' vs ds → Q vs H'
  | .err x M' => ∀ cls d H' L', Nxt H L M H' L' M' → MR K H' G L' M' → XR K T H' (Fbd L' M' G) x cls d → E cls d H'
  | .bad => False
abbrev Env := List (Option D)
structure SR (σ : L2.St) (H : Hp) (ρ : Env) (G : Addr → Prop) (L : List Addr) (M : Mem) : Prop where
  mr : MR K H G L M
  len : ρ.length = σ.length
  env : ∀ (i : Nat) (x : D), ρ[i]? = some (some x) → ∃ v, σ[i]? = some (some v) ∧ RD K T H G L M v x
end
abbrev PFn := Env → Mem → Res Ev
abbrev TFn := Env → Mem → Res Bool
abbrev AFn := Env → Mem → Res (List D)
/-- how a block ends -/
inductive Out where
  | nx (ρ : Env)
  | rt (x : Ev)
  | bk (ρ : Env)
  | ct (ρ : Env)
abbrev SFn := Env → Mem → Res Out
/-- a def's meaning -/
abbrev FS := List D → Mem → Res Ev

section
variable {K : PySem.W.Frag} {T : Tb} {H H' H1 : Hp} {G : Addr → Prop} {L L' L1 : List Addr} {M M' M1 : Mem} {σ : L2.St} {ρ : Env}
theorem RD.ext (x : Nxt H L M H' L' M') {v : V} {d : D} (h : RD K T H G L M v d) : RD K T H' G L' M' v d := by
  cases h with
  | p h => exact .p (Rp.ext x.keeps _ _ h)
  | obj h => exact .obj (x.get h)
  | fn id => exact .fn id
  | ty n => exact .ty n
  | frz h r => exact .frz (h.ext x.keeps) (RpAll.ext x.keeps _ _ r)
theorem RDs.ext (x : Nxt H L M H' L' M') {vs : List V} {ds : List D} (h : RDs K T H G L M vs ds) : RDs K T H' G L' M' vs ds := Paired.mapP h fun _ _ r => RD.ext x r
theorem SR.ext (s : SR K T σ H ρ G L M) (x : Nxt H L M H' L' M') (m : MR K H' G L' M') : SR K T σ H' ρ G L' M' :=
  ⟨m, s.len, fun i d h => let ⟨v, h1, h2⟩ := s.env i d h; ⟨v, h1, h2.ext x⟩⟩
theorem MR.free {p : Addr} (m : MR K H G L M) (hp : H p = none) : ¬ Fbd L M G p := fun z => z.elim (fun q => m.tr p q.mem hp) fun g => m.tg p g hp
theorem MC.rp {p : Addr} {ho : HO} {o : MObj} (m : MR K H G L M) (hp : H p = none) (c : MC K H (Fbd L M G) ho o) : Rp K (upd H p ho) (Fbd L M G) (.ref p) o.toP := by
  have c' := c.ext (Nxt.fresh (ho := ho) hp).keeps
  cases c' with
  | lst r => exact .lst upd_same (m.free hp) r
  | dct r => exact .dct (.inl upd_same) (m.free hp) r
theorem Post.start {r : Res Ev} {Q : VK} {E : XK} (x : Nxt H L M H1 L1 M1) (h : Post K T H G L M r Q E) : Post K T H1 G L1 M1 r Q E := by
  cases r with
  | ok e M' =>
    cases e with
    | d y => exact fun v H' L' n m q => h v H' L' (x.trans n) m q
    | new o => exact fun p ho H' L' hp n m q => h p ho H' L' hp (x.trans n) m q
  | err y M' => exact fun cls d H' L' n m q => h cls d H' L' (x.trans n) m q
  | bad => exact h
theorem PostT.start {r : Res Bool} {Q : Bool → Hp → Prop} {E : XK} (x : Nxt H L M H1 L1 M1) (h : PostT K T H G L M r Q E) : PostT K T H1 G L1 M1 r Q E := by
  cases r with
  | ok e M' => exact fun H' L' n m => h H' L' (x.trans n) m
  | err y M' => exact fun cls d H' L' n m q => h cls d H' L' (x.trans n) m q
  | bad => exact h
theorem PostA.start {r : Res (List D)} {Q : List V → Hp → Prop} {E : XK} (x : Nxt H L M H1 L1 M1) (h : PostA K T H G L M r Q E) : PostA K T H1 G L1 M1 r Q E := by
  cases r with
  | ok e M' => exact fun v H' L' n m q => h v H' L' (x.trans n) m q
  | err y M' => exact fun cls d H' L' n m q => h cls d H' L' (x.trans n) m q
  | bad => exact h
theorem Post.mono {r : Res Ev} {Q Q' : VK} {E : XK} (h : Post K T H G L M r Q E) (hq : ∀ v H', Q v H' → Q' v H') : Post K T H G L M r Q' E := by
  cases r with
  | ok e M' =>
    cases e with
    | d y => exact fun v H' L' n m q => hq _ _ (h v H' L' n m q)
    | new o => exact fun p ho H' L' hp n m q => hq _ _ (h p ho H' L' hp n m q)
  | err y M' => exact h
  | bad => exact h
/-- a new thing is taken as plain data -/
theorem Post.bind {r : Res Ev} {k : D → Mem → Res Ev} {Q : VK} {E : XK} (h : Post K T H G L M ((stl r).bind k) Q E) :
    Post K T H G L M r (fun v H1 => ∃ x L1 M1, Nxt H L M H1 L1 M1 ∧ MR K H1 G L1 M1 ∧ RD K T H1 G L1 M1 v x ∧ Post K T H1 G L1 M1 (k x M1) Q E) E := by
  cases r with
  | ok e M' =>
    cases e with
    | d y => exact fun v H' L' n m q => ⟨y, L', M', n, m, q, h.start n⟩
    | new o =>
      intro p ho H' L' hp n m c
      have n2 : Nxt H L M (upd H' p ho) L' M' := n.trans (Nxt.fresh hp)
      exact ⟨.p o.toP, L', M', n2, m.fresh hp, .p (c.rp m hp), h.start n2⟩
  | err y M' => exact h
  | bad => exact h
theorem Post.bindT {r : Res Ev} {k : D → Mem → Res Bool} {Q : Bool → Hp → Prop} {E : XK} (h : PostT K T H G L M ((stl r).bind k) Q E) :
    Post K T H G L M r (fun v H1 => ∃ x L1 M1, Nxt H L M H1 L1 M1 ∧ MR K H1 G L1 M1 ∧ RD K T H1 G L1 M1 v x ∧ PostT K T H1 G L1 M1 (k x M1) Q E) E := by
  cases r with
  | ok e M' =>
    cases e with
    | d y => exact fun v H' L' n m q => ⟨y, L', M', n, m, q, h.start n⟩
    | new o =>
      intro p ho H' L' hp n m c
      have n2 : Nxt H L M (upd H' p ho) L' M' := n.trans (Nxt.fresh hp)
      exact ⟨.p o.toP, L', M', n2, m.fresh hp, .p (c.rp m hp), h.start n2⟩
  | err y M' => exact h
  | bad => exact h
theorem Post.bindA {r : Res Ev} {k : D → Mem → Res (List D)} {Q : List V → Hp → Prop} {E : XK} (h : PostA K T H G L M ((stl r).bind k) Q E) :
    Post K T H G L M r (fun v H1 => ∃ x L1 M1, Nxt H L M H1 L1 M1 ∧ MR K H1 G L1 M1 ∧ RD K T H1 G L1 M1 v x ∧ PostA K T H1 G L1 M1 (k x M1) Q E) E := by
  cases r with
  | ok e M' =>
    cases e with
    | d y => exact fun v H' L' n m q => ⟨y, L', M', n, m, q, h.start n⟩
    | new o =>
      intro p ho H' L' hp n m c
      have n2 : Nxt H L M (upd H' p ho) L' M' := n.trans (Nxt.fresh hp)
      exact ⟨.p o.toP, L', M', n2, m.fresh hp, .p (c.rp m hp), h.start n2⟩
  | err y M' => exact h
  | bad => exact h
theorem PostT.bind {r : Res Bool} {k : Bool → Mem → Res Ev} {Q : VK} {E : XK} (h : Post K T H G L M (r.bind k) Q E) :
    PostT K T H G L M r (fun b H1 => ∃ L1 M1, Nxt H L M H1 L1 M1 ∧ MR K H1 G L1 M1 ∧ Post K T H1 G L1 M1 (k b M1) Q E) E := by
  cases r with
  | ok e M' => exact fun H' L' n m => ⟨L', M', n, m, h.start n⟩
  | err y M' => exact h
  | bad => exact h
theorem PostT.bindT {r : Res Bool} {k : Bool → Mem → Res Bool} {Q : Bool → Hp → Prop} {E : XK} (h : PostT K T H G L M (r.bind k) Q E) :
    PostT K T H G L M r (fun b H1 => ∃ L1 M1, Nxt H L M H1 L1 M1 ∧ MR K H1 G L1 M1 ∧ PostT K T H1 G L1 M1 (k b M1) Q E) E := by
  cases r with
  | ok e M' => exact fun H' L' n m => ⟨L', M', n, m, h.start n⟩
  | err y M' => exact h
  | bad => exact h
theorem PostA.bind {r : Res (List D)} {k : List D → Mem → Res Ev} {Q : VK} {E : XK} (h : Post K T H G L M (r.bind k) Q E) :
    PostA K T H G L M r (fun vs H1 => ∃ ds L1 M1, Nxt H L M H1 L1 M1 ∧ MR K H1 G L1 M1 ∧ RDs K T H1 G L1 M1 vs ds ∧ Post K T H1 G L1 M1 (k ds M1) Q E) E := by
  cases r with
  | ok e M' => exact fun vs H' L' n m q => ⟨e, L', M', n, m, q, h.start n⟩
  | err y M' => exact h
  | bad => exact h
theorem PostA.bindA {r : Res (List D)} {k : List D → Mem → Res (List D)} {Q : List V → Hp → Prop} {E : XK} (h : PostA K T H G L M (r.bind k) Q E) :
    PostA K T H G L M r (fun vs H1 => ∃ ds L1 M1, Nxt H L M H1 L1 M1 ∧ MR K H1 G L1 M1 ∧ RDs K T H1 G L1 M1 vs ds ∧ PostA K T H1 G L1 M1 (k ds M1) Q E) E := by
  cases r with
  | ok e M' => exact fun vs H' L' n m q => ⟨e, L', M', n, m, q, h.start n⟩
  | err y M' => exact h
  | bad => exact h
theorem PostT.mono {r : Res Bool} {Q Q' : Bool → Hp → Prop} {E : XK} (h : PostT K T H G L M r Q E) (hq : ∀ v H', Q v H' → Q' v H') : PostT K T H G L M r Q' E := by
  cases r with
  | ok e M' => exact fun H' L' n m => hq _ _ (h H' L' n m)
  | err y M' => exact h
  | bad => exact h
theorem PostA.mono {r : Res (List D)} {Q Q' : List V → Hp → Prop} {E : XK} (h : PostA K T H G L M r Q E) (hq : ∀ v H', Q v H' → Q' v H') : PostA K T H G L M r Q' E := by
  cases r with
  | ok e M' => exact fun v H' L' n m q => hq _ _ (h v H' L' n m q)
  | err y M' => exact h
  | bad => exact h
end

/-! ### the readings -/
section
variable (X : Cx) (T : Tb) (W : WX)
def tE (φ : PFn) : TE := fun σ H Q => ∃ ρ G L M, SR X.K T σ H ρ G L M ∧ Post X.K T H G L M (φ ρ M) Q fun cls d H' => W cls d σ H'
def tT (φ : TFn) : TT := fun σ H Q => ∃ ρ G L M, SR X.K T σ H ρ G L M ∧ PostT X.K T H G L M (φ ρ M) Q fun cls d H' => W cls d σ H'
def tA (φ : AFn) : TA := fun σ H Q => ∃ ρ G L M, SR X.K T σ H ρ G L M ∧ PostA X.K T H G L M (φ ρ M) Q fun cls d H' => W cls d σ H'
def PD (φ : PFn) (e : Expr) : Prop := PE X e (tE X T W φ)
def TD (φ : TFn) (e : Expr) : Prop := PT X e (tT X T W φ)
def AD (φ : AFn) (es : List Expr) : Prop := PA X es (tA X T W φ)
end
section
variable {X : Cx}
theorem PE.imp {e : Expr} {t t' : TE} (h : PE X e t) (i : ∀ σ H Q, t' σ H Q → t σ H Q) : PE X e t' := ⟨fun pins s σ H Q I q => h.run pins s σ H Q I (i σ H Q q)⟩
theorem PT.imp {e : Expr} {t t' : TT} (h : PT X e t) (i : ∀ σ H Q, t' σ H Q → t σ H Q) : PT X e t' := ⟨fun pins s σ H Q I q => h.run pins s σ H Q I (i σ H Q q)⟩
theorem PA.imp {e : List Expr} {t t' : TA} (h : PA X e t) (i : ∀ σ H Q, t' σ H Q → t σ H Q) : PA X e t' := ⟨fun pos pins s σ H Q I q => h.run pos pins s σ H Q I (i σ H Q q)⟩
theorem PS.imp {e : Stmt} {t t' : TS} (h : PS X e t) (i : ∀ D σ H, t' D σ H → t D σ H) : PS X e t' := ⟨fun pins s σ H D I q => h.run pins s σ H D I (i D σ H q)⟩
end

/-! ### operations by values -/
section
variable (X : Cx) (T : Tb)
def never : XK := fun _ _ _ => False
/-- a two-place operation that leaves the memory -/
def OpG (f : Value → Value → Sem Value) (g : D → D → Mem → Option Ev) : Prop :=
  OpR X f fun x y H Q => ∃ a b r G L M, MR X.K H G L M ∧ RD X.K T H G L M x a ∧ RD X.K T H G L M y b ∧ g a b M = some r ∧ Post X.K T H G L M (.ok r M) Q never
def UnG (f : Value → Sem Value) (g : D → Mem → Option Ev) : Prop :=
  UnR X f fun x H Q => ∃ a r G L M, MR X.K H G L M ∧ RD X.K T H G L M x a ∧ g a M = some r ∧ Post X.K T H G L M (.ok r M) Q never
/-- a call of a built-in -/
def CallG (f : Value) (g : List D → Mem → Option (Ev × Mem)) : Prop :=
  CallR X f fun xs H Q => ∃ ds r M' G L M, MR X.K H G L M ∧ RDs X.K T H G L M xs ds ∧ g ds M = some (r, M') ∧ Post X.K T H G L M (.ok r M') Q never
/-- a built-in method: the receiver, the arguments -/
def MthG (id : String) (g : D → List D → Mem → Option (Ev × Mem)) : Prop :=
  CallR X (.builtin id) fun xs H Q => ∃ v vs d ds r M' G L M, xs = v :: vs ∧ MR X.K H G L M ∧ RD X.K T H G L M v d ∧ RDs X.K T H G L M vs ds ∧ g d ds M = some (r, M') ∧ Post X.K T H G L M (.ok r M') Q never
end
/-- an answer, if there is one -/
def ofO (r : Option Ev) (M : Mem) : Res Ev := match r with
  | some r => .ok r M
  | none => .bad
def ofM (r : Option (Ev × Mem)) : Res Ev := match r with
  | some (r, M) => .ok r M
  | none => .bad
@[simp] theorem ofO_some (r : Ev) (M : Mem) : ofO (some r) M = .ok r M := rfl
@[simp] theorem ofM_some (r : Ev) (M : Mem) : ofM (some (r, M)) = .ok r M := rfl
@[simp] theorem ofO_none (M : Mem) : ofO none M = .bad := rfl
@[simp] theorem ofM_none : ofM none = .bad := rfl
section
variable {K : PySem.W.Frag} {T : Tb} {H : Hp} {G : Addr → Prop} {L : List Addr} {M M' : Mem} {Q : VK} {E : XK}
theorem Post.ok_any {r : Ev} (h : Post K T H G L M (.ok r M') Q E) (E' : XK) : Post K T H G L M (.ok r M') Q E' := by cases r <;> exact h
theorem ofO_post {r : Option Ev} (h : Post K T H G L M (ofO r M') Q E) : ∃ x, r = some x ∧ Post K T H G L M (.ok x M') Q never := by
  cases r with
  | none => exact False.elim h
  | some x => exact ⟨x, rfl, Post.ok_any h never⟩
theorem ofM_post {r : Option (Ev × Mem)} (h : Post K T H G L M (ofM r) Q E) : ∃ x N, r = some (x, N) ∧ Post K T H G L M (.ok x N) Q never := by
  cases r with
  | none => exact False.elim h
  | some x => exact ⟨x.1, x.2, rfl, Post.ok_any h never⟩
end

/-! ### expressions put together -/
def eBin (g : D → D → Mem → Option Ev) (φ ψ : PFn) : PFn := fun ρ M => (stl (φ ρ M)).bind fun x M1 => (stl (ψ ρ M1)).bind fun y M2 => ofO (g x y M2) M2
def eUn (g : D → Mem → Option Ev) (φ : PFn) : PFn := fun ρ M => (stl (φ ρ M)).bind fun x M1 => ofO (g x M1) M1
def eVar (i : Nat) : PFn := fun ρ M => match ρ[i]? with
  | some (some x) => .ok (.d x) M
  | _ => .bad
def eP (d : P) : PFn := fun _ M => .ok (.d (.p d)) M
def eD (d : D) : PFn := fun _ M => .ok (.d d) M
section
variable {X : Cx} {T : Tb} {W : WX} {a b c : Expr} {φ ψ χ : PFn} {pos : Pos}
theorem bin_go {σ : L2.St} {H : Hp} {Q : VK} {g : D → D → Mem → Option Ev} {f : Value → Value → Sem Value} (h : tE X T W (eBin g φ ψ) σ H Q) :
    tOp (fun x y H Q => ∃ a b r G L M, MR X.K H G L M ∧ RD X.K T H G L M x a ∧ RD X.K T H G L M y b ∧ g a b M = some r ∧ Post X.K T H G L M (.ok r M) Q never) (tE X T W φ) (tE X T W ψ) σ H Q := by
  obtain ⟨ρ, G, L, M, s, h⟩ := h
  refine ⟨ρ, G, L, M, s, (Post.bind h).mono fun v H1 ⟨x, L1, M1, n1, m1, r1, h1⟩ => ?_⟩
  refine ⟨ρ, G, L1, M1, s.ext n1 m1, (Post.bind h1).mono fun u H2 ⟨y, L2, M2, n2, m2, r2, h2⟩ => ?_⟩
  obtain ⟨r, e, q⟩ := ofO_post h2
  exact ⟨x, y, r, G, L2, M2, m2, r1.ext n2, r2, e, q⟩
theorem pd_bin {op : Operator} {g : D → D → Mem → Option Ev} (ho : OpG X T (binaryOp op) g) (ha : PD X T W φ a) (hb : PD X T W ψ b) : PD X T W (eBin g φ ψ) (.BinOp a op b pos) :=
  PE.imp (pe_op ho ha hb) fun σ H Q h => bin_go (f := binaryOp op) h
theorem pd_cmp {op : CmpOp} {g : D → D → Mem → Option Ev} (ho : OpG X T (compareOp op) g) (ha : PD X T W φ a) (hb : PD X T W ψ b) (hm : behindInMarks op b = false) : PD X T W (eBin g φ ψ) (.Compare a [op] [b] pos) :=
  PE.imp (pe_cmpR ho ha hb hm) fun σ H Q h => bin_go (f := compareOp op) h
theorem pd_un {op : UnaryOp} {g : D → Mem → Option Ev} (ho : UnG X T (unaryOp op) g) (ha : PD X T W φ a) : PD X T W (eUn g φ) (.UnaryOp op a pos) :=
  PE.imp (pe_un ho ha) fun σ H Q h => by
    obtain ⟨ρ, G, L, M, s, h⟩ := h
    refine ⟨ρ, G, L, M, s, (Post.bind h).mono fun v H1 ⟨x, L1, M1, n1, m1, r1, h1⟩ => ?_⟩
    obtain ⟨r, e, q⟩ := ofO_post h1
    exact ⟨x, r, G, L1, M1, m1, r1, e, q⟩
theorem pd_var {i : Nat} {x : Str} (hN : X.N[i]? = some x) (hv : Vis X.env.scope x) (hd : (x == ("__debug__" : Str)) = false) (hcd : (x == ("__classdict__" : Str)) = false) : PD X T W (eVar i) (.Name x pos) :=
  PE.imp (pe_var hN hv hd hcd) fun σ H Q h => by
    obtain ⟨ρ, G, L, M, s, h⟩ := h
    unfold eVar at h
    split at h
    · rename_i d e
      obtain ⟨v, e2, r⟩ := s.env i d e
      exact ⟨v, e2, h v H L Nxt.refl s.mr r⟩
    · exact h.elim
theorem pd_val {v : V} {d : D} {e : Expr} (he : PE X e (tC v)) (r : ∀ H G L M, RD X.K T H G L M v d) : PD X T W (eD d) e :=
  PE.imp he fun σ H Q h => by
    obtain ⟨ρ, G, L, M, s, h⟩ := h
    exact h v H L Nxt.refl s.mr (r _ _ _ _)
theorem pd_int {i : Int} {j : Nat} : PD X T W (eD (.p (.int i))) (.Constant (.int i) j pos) := pd_val pe_int fun _ _ _ _ => .p (.int i)
theorem pd_bool {i : Bool} {j : Nat} : PD X T W (eD (.p (.bool i))) (.Constant (.bool i) j pos) := pd_val pe_bl fun _ _ _ _ => .p (.bl i)
theorem pd_none {j : Nat} : PD X T W (eD (.p .none)) (.Constant .none j pos) := pd_val pe_non fun _ _ _ _ => .p .non
theorem pd_str {x : Str} {j : Nat} (h : x.length ≤ sizeLine) : PD X T W (eD (.p (.str x))) (.Constant (.str x) j pos) := pd_val pe_str fun _ _ _ _ => .p (.str x h)
/-- a if t else b -/
def eIf (t : TFn) (φ ψ : PFn) : PFn := fun ρ M => (t ρ M).bind fun b M1 => if b = true then φ ρ M1 else ψ ρ M1
theorem pd_if {t : TFn} (hc : TD X T W t c) (ha : PD X T W φ a) (hb : PD X T W ψ b) : PD X T W (eIf t φ ψ) (.IfExp c a b pos) :=
  PE.imp (pe_ifExp hc ha hb) fun σ H Q h => by
    obtain ⟨ρ, G, L, M, s, h⟩ := h
    refine ⟨ρ, G, L, M, s, (PostT.bind h).mono fun k H1 ⟨L1, M1, n1, m1, h1⟩ => ?_⟩
    cases k with
    | true => exact ⟨ρ, G, L1, M1, s.ext n1 m1, h1⟩
    | false => exact ⟨ρ, G, L1, M1, s.ext n1 m1, h1⟩
/-! tests -/
/-- the value must be True or False -/
def asB : D → Mem → Res Bool
  | .p (.bool b), M => .ok b M
  | _, _ => .bad
def tVal (φ : PFn) : TFn := fun ρ M => (stl (φ ρ M)).bind asB
theorem RD.bool {K : PySem.W.Frag} {H : Hp} {G : Addr → Prop} {L : List Addr} {M : Mem} {v : V} {b : Bool} (r : RD K T H G L M v (.p (.bool b))) : v = .bl b := by
  cases r with
  | p h => cases h; rfl
theorem RD.int {K : PySem.W.Frag} {H : Hp} {G : Addr → Prop} {L : List Addr} {M : Mem} {v : V} {b : Int} (r : RD K T H G L M v (.p (.int b))) : v = .int b := by
  cases r with
  | p h => cases h; rfl
theorem RD.str {K : PySem.W.Frag} {H : Hp} {G : Addr → Prop} {L : List Addr} {M : Mem} {v : V} {b : Str} (r : RD K T H G L M v (.p (.str b))) : v = .str b ∧ b.length ≤ sizeLine := by
  cases r with
  | p h => cases h with | str _ h => exact ⟨rfl, h⟩
theorem RD.none {K : PySem.W.Frag} {H : Hp} {G : Addr → Prop} {L : List Addr} {M : Mem} {v : V} (r : RD K T H G L M v (.p .none)) : v = .non := by
  cases r with
  | p h => cases h; rfl
theorem asB_post {K : PySem.W.Frag} {H : Hp} {G : Addr → Prop} {L : List Addr} {M : Mem} {v : V} {x : D} {Q : Bool → Hp → Prop} {E : XK} (m : MR K H G L M) (r : RD K T H G L M v x) (h : PostT K T H G L M (asB x M) Q E) : ∃ k, v = .bl k ∧ Q k H := by
  unfold asB at h
  split at h
  · exact ⟨_, r.bool, h H L Nxt.refl m⟩
  · exact h.elim
theorem td_val (ha : PD X T W φ a) (he : ∀ whole, isTrue a X.env whole = (do let v ← whole; standAt a.pos; holding [v] (truthy v))) : TD X T W (tVal φ) a :=
  PT.imp (pt_val ha he) fun σ H Q h => by
    obtain ⟨ρ, G, L, M, s, h⟩ := h
    refine ⟨ρ, G, L, M, s, (Post.bindT h).mono fun v H1 ⟨x, L1, M1, n1, m1, r1, h1⟩ => ?_⟩
    exact asB_post m1 r1 h1
theorem td_cmp {op : CmpOp} {g : D → D → Mem → Option Ev} (ho : OpG X T (compareOp op) g) (ha : PD X T W φ a) (hb : PD X T W ψ b) (hm : behindInMarks op b = false) : TD X T W (tVal (eBin g φ ψ)) (.Compare a [op] [b] pos) :=
  PT.imp (pt_cmpR ho ha hb hm) fun σ H Q h => by
    obtain ⟨ρ, G, L, M, s, h⟩ := h
    exact bin_go (f := compareOp op) ⟨ρ, G, L, M, s, (Post.bindT h).mono fun v H1 ⟨x, L1, M1, n1, m1, r1, h1⟩ => asB_post m1 r1 h1⟩
def tNot (t : TFn) : TFn := fun ρ M => (t ρ M).map (!·)
theorem PostT.map {K : PySem.W.Frag} {H : Hp} {G : Addr → Prop} {L : List Addr} {M : Mem} {r : Res Bool} {f : Bool → Bool} {Q : Bool → Hp → Prop} {E : XK} (h : PostT K T H G L M (r.map f) Q E) : PostT K T H G L M r (fun b H1 => Q (f b) H1) E := by
  cases r <;> exact h
theorem td_not {t : TFn} (ha : TD X T W t a) : TD X T W (tNot t) (.UnaryOp .Not a pos) :=
  PT.imp (pt_not ha) fun σ H Q h => by
    obtain ⟨ρ, G, L, M, s, h⟩ := h
    exact ⟨ρ, G, L, M, s, PostT.map h⟩
def tAnd (t u : TFn) : TFn := fun ρ M => (t ρ M).bind fun b M1 => if b = true then u ρ M1 else .ok false M1
def tOr (t u : TFn) : TFn := fun ρ M => (t ρ M).bind fun b M1 => if b = true then .ok true M1 else u ρ M1
/-- and, or: in a chain -/
def WD (X : Cx) (T : Tb) (W : WX) (φ : TFn) (e : Expr) : Prop := PW X e (tT X T W φ)
theorem PW.imp {e : Expr} {t t' : TT} (h : PW X e t) (i : ∀ σ H Q, t' σ H Q → t σ H Q) : PW X e t' := ⟨fun wh pins s σ H Q I q => h.run wh pins s σ H Q I (i σ H Q q)⟩
theorem wd_and1 {t : TFn} (ha : TD X T W t a) : WD X T W t (.BoolOp .And [a] pos) := pw_and1 ha
theorem wd_or1 {t : TFn} (ha : TD X T W t a) : WD X T W t (.BoolOp .Or [a] pos) := pw_or1 ha
theorem wd_and {t u : TFn} {rest : List Expr} (ha : TD X T W t a) (hb : WD X T W u (.BoolOp .And (b :: rest) pos)) : WD X T W (tAnd t u) (.BoolOp .And (a :: b :: rest) pos) :=
  PW.imp (pw_and ha hb) fun σ H Q h => by
    obtain ⟨ρ, G, L, M, s, h⟩ := h
    refine ⟨ρ, G, L, M, s, (PostT.bindT h).mono fun k H1 ⟨L1, M1, n1, m1, h1⟩ => ?_⟩
    cases k with
    | true => exact ⟨ρ, G, L1, M1, s.ext n1 m1, h1⟩
    | false => exact h1 H1 L1 Nxt.refl m1
theorem wd_or {t u : TFn} {rest : List Expr} (ha : TD X T W t a) (hb : WD X T W u (.BoolOp .Or (b :: rest) pos)) : WD X T W (tOr t u) (.BoolOp .Or (a :: b :: rest) pos) :=
  PW.imp (pw_or ha hb) fun σ H Q h => by
    obtain ⟨ρ, G, L, M, s, h⟩ := h
    refine ⟨ρ, G, L, M, s, (PostT.bindT h).mono fun k H1 ⟨L1, M1, n1, m1, h1⟩ => ?_⟩
    cases k with
    | false => exact ⟨ρ, G, L1, M1, s.ext n1 m1, h1⟩
    | true => exact h1 H1 L1 Nxt.refl m1
theorem td_bool {t : TFn} {e : Expr} (h : WD X T W t e) : TD X T W t e := PW.pt h
/-! and, or, not as values of True and False -/
def eAnd (φ ψ : PFn) : PFn := fun ρ M => ((stl (φ ρ M)).bind asB).bind fun b M1 => if b = true then ψ ρ M1 else .ok (.d (.p (.bool false))) M1
def eOr (φ ψ : PFn) : PFn := fun ρ M => ((stl (φ ρ M)).bind asB).bind fun b M1 => if b = true then .ok (.d (.p (.bool true))) M1 else ψ ρ M1
def eNot (φ : PFn) : PFn := fun ρ M => ((stl (φ ρ M)).bind asB).bind fun b M1 => .ok (.d (.p (.bool (!b)))) M1
theorem asB_bind {K : PySem.W.Frag} {H : Hp} {G : Addr → Prop} {L : List Addr} {M : Mem} {v : V} {x : D} {k : Bool → Mem → Res Ev} {Q : VK} {E : XK} (r : RD K T H G L M v x) (h : Post K T H G L M ((asB x M).bind k) Q E) : ∃ b, v = .bl b ∧ Post K T H G L M (k b M) Q E := by
  unfold asB at h
  split at h
  · exact ⟨_, r.bool, h⟩
  · exact h.elim
theorem pd_one {op : BoolOp} (h : PD X T W φ a) : PD X T W φ (.BoolOp op [a] pos) := pe_one h
theorem pd_and {rest : List Expr} (ha : PD X T W φ a) (hb : PD X T W ψ (.BoolOp .And (b :: rest) pos)) : PD X T W (eAnd φ ψ) (.BoolOp .And (a :: b :: rest) pos) :=
  PE.imp (pe_and ha hb) fun σ H Q h => by
    obtain ⟨ρ, G, L, M, s, h⟩ := h
    unfold eAnd at h
    rw [Res.bind_assoc] at h
    refine ⟨ρ, G, L, M, s, (Post.bind h).mono fun v H1 ⟨x, L1, M1, n1, m1, r1, h1⟩ => ?_⟩
    obtain ⟨k, e, h1⟩ := asB_bind r1 h1
    refine ⟨k, e, ?_⟩
    cases k with
    | true => exact ⟨ρ, G, L1, M1, s.ext n1 m1, h1⟩
    | false => exact h1 _ H1 L1 Nxt.refl m1 (.p (.bl _))
theorem pd_or {rest : List Expr} (ha : PD X T W φ a) (hb : PD X T W ψ (.BoolOp .Or (b :: rest) pos)) : PD X T W (eOr φ ψ) (.BoolOp .Or (a :: b :: rest) pos) :=
  PE.imp (pe_or ha hb) fun σ H Q h => by
    obtain ⟨ρ, G, L, M, s, h⟩ := h
    unfold eOr at h
    rw [Res.bind_assoc] at h
    refine ⟨ρ, G, L, M, s, (Post.bind h).mono fun v H1 ⟨x, L1, M1, n1, m1, r1, h1⟩ => ?_⟩
    obtain ⟨k, e, h1⟩ := asB_bind r1 h1
    refine ⟨k, e, ?_⟩
    cases k with
    | false => exact ⟨ρ, G, L1, M1, s.ext n1 m1, h1⟩
    | true => exact h1 _ H1 L1 Nxt.refl m1 (.p (.bl _))
theorem pd_not (ha : PD X T W φ a) : PD X T W (eNot φ) (.UnaryOp .Not a pos) :=
  PE.imp (pe_not ha) fun σ H Q h => by
    obtain ⟨ρ, G, L, M, s, h⟩ := h
    unfold eNot at h
    rw [Res.bind_assoc] at h
    refine ⟨ρ, G, L, M, s, (Post.bind h).mono fun v H1 ⟨x, L1, M1, n1, m1, r1, h1⟩ => ?_⟩
    obtain ⟨k, e, h1⟩ := asB_bind r1 h1
    exact ⟨k, e, h1 _ H1 L1 Nxt.refl m1 (.p (.bl _))⟩
end
end Cb

set_option Elab.async false
set_option linter.all false
set_option maxRecDepth 100000
/-! Cb, part C: the operators by values. -/
namespace Cb
open PySem PySem.Spec PyProof.Rows L2

/-- what a def's body always has around it -/
structure XOk (X : Cx) : Prop where
  calm : X.calm = true
  nd : X.N.Nodup
  hu : X.A.units + 200 < cLine
  hg : X.A.guards = some []

/-- the data that a value holds now -/
def pv : D → Mem → Option P
  | .p d, _ => some d
  | .obj n, M => match M[n]? with
    | some (.lst xs) => some (.list xs)
    | some (.dct kvs) => some (.dict kvs)
    | _ => none
  | _, _ => none
@[simp] theorem pv_p (d : P) (M : Mem) : pv (.p d) M = some d := rfl

section
variable {K : PySem.W.Frag} {T : Tb} {H : Hp} {G : Addr → Prop} {Fb : Addr → Prop} {L : List Addr} {M : Mem}
mutual
theorem Rp.dp : ∀ (d : P) (v : V), d.plain = true → Rp K H Fb v d → Dp K H v d
  | .none, _, _, h => by cases h; exact .non
  | .bool _, _, _, h => by cases h; exact .bl _
  | .int _, _, _, h => by cases h; exact .int _
  | .str _, _, _, h => by cases h; exact .str _
  | .list ds, _, p, h => by
    cases h with
    | lst h hn r => exact .lst (.inl (.inl h)) (RpAll.dp ds _ (by simpa [PyData.plain] using p) r)
  | .tuple ds, _, p, h => by
    cases h with
    | tup h hn r => exact .tup (.inl h) (RpAll.dp ds _ (by simpa [PyData.plain] using p) r)
    | tupK h1 h2 h3 h4 h5 r => exact .tup (.inr ⟨_, _, _, h1, h2, h3, h4, h5⟩) (RpAll.dp ds _ (by simpa [PyData.plain] using p) r)
  | .dict _, _, p, _ => by simp [PyData.plain] at p
theorem RpAll.dp : ∀ (ds : List P) (vs : List V), PyData.plainAll ds = true → RpAll K H Fb vs ds → DpAll K H vs ds
  | [], _, _, h => by cases h; exact .nil
  | d :: ds, _, p, h => by
    rw [PyData.plainAll, Bool.and_eq_true] at p
    cases h with
    | cons h t => exact .cons (Rp.dp d _ p.1 h) (RpAll.dp ds _ p.2 t)
end
/-- a list that is there: kept or changing -/
theorem pv_list (m : MR K H G L M) {v : V} {d : D} {xs : List P} (r : RD K T H G L M v d) (h : pv d M = some (.list xs)) : ∃ a vs, v = .ref a ∧ H a = some (.lst vs) ∧ RpAll K H (Fbd L M G) vs xs := by
  cases r with
  | p r =>
    simp only [pv_p, Option.some.injEq] at h
    subst h
    cases r with
    | lst h hn r => exact ⟨_, _, rfl, h, r⟩
  | @obj n a e =>
    unfold pv at h
    cases e2 : M[n]? with
    | none => simp [e2] at h
    | some o =>
      cases o with
      | dead => simp [e2] at h
      | lst ys =>
        simp [e2] at h
        subst h
        obtain ⟨ho, e3, c⟩ := m.at_ n a _ e e2 rfl
        cases c with
        | lst r => exact ⟨a, _, rfl, e3, r⟩
      | dct kvs => simp [e2] at h
  | fn _ => simp [pv] at h
  | ty _ => simp [pv] at h
  | frz _ _ => simp [pv] at h
theorem pv_tuple {v : V} {d : D} {xs : List P} (r : RD K T H G L M v d) (h : pv d M = some (.tuple xs)) : ∃ a vs, v = .ref a ∧ SqT K H a vs ∧ RpAll K H (Fbd L M G) vs xs ∧ Rp K H (Fbd L M G) (.ref a) (.tuple xs) := by
  cases r with
  | p r =>
    simp only [pv_p, Option.some.injEq] at h
    subst h
    cases r with
    | tup h hn r => exact ⟨_, _, rfl, .inl h, r, .tup h hn r⟩
    | tupK h1 h2 h3 h4 h5 r => exact ⟨_, _, rfl, .inr ⟨_, _, _, h1, h2, h3, h4, h5⟩, r, .tupK h1 h2 h3 h4 h5 r⟩
  | @obj n a e =>
    unfold pv at h
    cases e2 : M[n]? with
    | none => simp [e2] at h
    | some o => cases o <;> simp [e2] at h
  | fn _ => simp [pv] at h
  | ty _ => simp [pv] at h
  | frz _ _ => simp [pv] at h
theorem pv_flat {v : V} {d : D} {x : P} (r : RD K T H G L M v d) (h : pv d M = some x) (hx : (∀ xs, x ≠ .list xs) ∧ ∀ xs, x ≠ .dict xs) : d = .p x := by
  cases r with
  | p r =>
    simp only [pv_p, Option.some.injEq] at h
    rw [h]
  | @obj n a e =>
    unfold pv at h
    cases e2 : M[n]? with
    | none => simp [e2] at h
    | some o =>
      cases o with
      | dead => simp [e2] at h
      | lst ys => simp [e2] at h; exact absurd h.symm (hx.1 _)
      | dct ys => simp [e2] at h; exact absurd h.symm (hx.2 _)
  | fn _ => simp [pv] at h
  | ty _ => simp [pv] at h
  | frz _ _ => simp [pv] at h
theorem pv_int {v : V} {d : D} {i : Int} (r : RD K T H G L M v d) (h : pv d M = some (.int i)) : v = .int i := by
  have e := pv_flat r h ⟨fun _ z => (by cases z), fun _ z => (by cases z)⟩
  subst e; exact r.int
theorem pv_str {v : V} {d : D} {x : Str} (r : RD K T H G L M v d) (h : pv d M = some (.str x)) : v = .str x ∧ x.length ≤ sizeLine := by
  have e := pv_flat r h ⟨fun _ z => (by cases z), fun _ z => (by cases z)⟩
  subst e; exact r.str
theorem pv_bool {v : V} {d : D} {x : Bool} (r : RD K T H G L M v d) (h : pv d M = some (.bool x)) : v = .bl x := by
  have e := pv_flat r h ⟨fun _ z => (by cases z), fun _ z => (by cases z)⟩
  subst e; exact r.bool
/-- plain data may be read -/
theorem pv_dp (m : MR K H G L M) {v : V} {d : D} {x : P} (r : RD K T H G L M v d) (h : pv d M = some x) (hp : x.plain = true) : Dp K H v x := by
  cases x with
  | list xs =>
    obtain ⟨a, vs, rfl, h1, h2⟩ := pv_list m r h
    exact .lst (.inl (.inl h1)) (RpAll.dp xs _ (by simpa [PyData.plain] using hp) h2)
  | dict _ => simp [PyData.plain] at hp
  | none => have e := pv_flat r h ⟨fun _ z => (by cases z), fun _ z => (by cases z)⟩; subst e; cases r with | p r => exact Rp.dp _ _ hp r
  | bool _ => have e := pv_flat r h ⟨fun _ z => (by cases z), fun _ z => (by cases z)⟩; subst e; cases r with | p r => exact Rp.dp _ _ hp r
  | int _ => have e := pv_flat r h ⟨fun _ z => (by cases z), fun _ z => (by cases z)⟩; subst e; cases r with | p r => exact Rp.dp _ _ hp r
  | str _ => have e := pv_flat r h ⟨fun _ z => (by cases z), fun _ z => (by cases z)⟩; subst e; cases r with | p r => exact Rp.dp _ _ hp r
  | tuple _ => have e := pv_flat r h ⟨fun _ z => (by cases z), fun _ z => (by cases z)⟩; subst e; cases r with | p r => exact Rp.dp _ _ hp r
end
/-- plain, and not too deep -/
def okP (d : P) : Bool := d.plain && decide (d.depth ≤ 60)
theorem okP_plain {d : P} (h : okP d = true) : d.plain = true := by
  unfold okP at h; rw [Bool.and_eq_true] at h; exact h.1
theorem okP_depth {d : P} (h : okP d = true) : d.depth ≤ 60 := by
  unfold okP at h; rw [Bool.and_eq_true, decide_eq_true_eq] at h; exact h.2
theorem okP_pair {d e : P} (h : (okP d && okP e) = true) : okP d = true ∧ okP e = true := by rwa [Bool.and_eq_true] at h

section
variable {X : Cx} {T : Tb}
/-- an operation on two plain data that gives flat data -/
theorem op_of {f : Value → Value → Sem Value} {g : P → P → Option P} (hf : ∀ x y z, g x y = some z → ∀ (pins : List (Addr × Obj)) (s : Shared) (σ : L2.St) (H : Hp) (G : Addr → Prop) (L : List Addr) (M : Mem) (a b : V) (c d : D) (v u : Value) (Q : Value → Shared → Prop),
      Inv X pins σ H s → MR X.K H G L M → RD X.K T H G L M a c → RD X.K T H G L M b d → pv c M = some x → pv d M = some y → RelV a v → RelV b u → (∀ (s' : Shared) (w : V) (t : Value), Inv X pins σ H s' → RelV w t → RD X.K T H G L M w (.p z) → Q t s') → wpAny (model X.prog X.w) X.A (f v u) Q X.xe s) :
    OpG X T f (fun c d M => match pv c M, pv d M with
      | some x, some y => (g x y).map fun z => .d (.p z)
      | _, _ => none) := by
  intro pins s σ H a b v u Q I ra rb h
  obtain ⟨c, d, r, G, L, M, m, rc, rd, e, q⟩ := h
  dsimp only at e
  split at e
  · rename_i x y e1 e2
    cases e3 : g x y with
    | none => rw [e3] at e; cases e
    | some z =>
      rw [e3] at e
      cases e
      exact hf x y z e3 pins s σ H G L M a b c d v u _ I m rc rd e1 e2 ra rb fun s' w t I' rt rz => ⟨w, H, I', rt, q w H L Nxt.refl m rz⟩
  · cases e
def gEq (x y : P) : Option P := if (okP x && okP y) = true then some (.bool (PyData.eqv x y)) else none
def gNe (x y : P) : Option P := if (okP x && okP y) = true then some (.bool (!PyData.eqv x y)) else none
def onP (g : P → P → Option P) : D → D → Mem → Option Ev := fun c d M => match pv c M, pv d M with
  | some x, some y => (g x y).map fun z => .d (.p z)
  | _, _ => none
@[simp] theorem onP_p (g : P → P → Option P) (x y : P) (M : Mem) : onP g (.p x) (.p y) M = (g x y).map fun z => .d (.p z) := rfl
theorem og_eq (c : XOk X) : OpG X T (compareOp .Eq) (onP gEq) := op_of fun x y z e pins s σ H G L M a b c' d' v u Q I m r1 r2 e1 e2 ra rb q => by
  unfold gEq at e
  split at e
  · rename_i ho
    cases e
    obtain ⟨o1, o2⟩ := okP_pair ho
    obtain ⟨as, w1⟩ := Dp.reads I _ _ _ (pv_dp m r1 e1 (okP_plain o1)) ra
    obtain ⟨bs, w2⟩ := Dp.reads I _ _ _ (pv_dp m r2 e2 (okP_plain o2)) rb
    refine SeqAt.eq_plain w1 w2 (okP_plain o1) (okP_plain o2) ?_ (q s (.bl _) _ I rfl (.p (.bl _)))
    have := c.hu
    have := okP_depth o1
    have : min x.depth y.depth ≤ x.depth := Nat.min_le_left _ _
    omega
  · cases e
theorem og_ne (c : XOk X) : OpG X T (compareOp .NotEq) (onP gNe) := op_of fun x y z e pins s σ H G L M a b c' d' v u Q I m r1 r2 e1 e2 ra rb q => by
  unfold gNe at e
  split at e
  · rename_i ho
    cases e
    obtain ⟨o1, o2⟩ := okP_pair ho
    obtain ⟨as, w1⟩ := Dp.reads I _ _ _ (pv_dp m r1 e1 (okP_plain o1)) ra
    obtain ⟨bs, w2⟩ := Dp.reads I _ _ _ (pv_dp m r2 e2 (okP_plain o2)) rb
    refine SeqAt.ne_plain w1 w2 (okP_plain o1) (okP_plain o2) ?_ (q s (.bl _) _ I rfl (.p (.bl _)))
    have := c.hu
    have := okP_depth o1
    have : min x.depth y.depth ≤ x.depth := Nat.min_le_left _ _
    omega
  · cases e

theorem nofit (c : XOk X) {x y : P} (hx : okP x = true) : X.A.units + min x.depth y.depth < cLine := by
  have := c.hu
  have := okP_depth hx
  have : min x.depth y.depth ≤ x.depth := Nat.min_le_left _ _
  omega
def isNoneP : P → Bool
  | .none => true
  | _ => false
def cmpOk (x y : P) : Bool := okP x && okP y && PySem.W.alike x y && !isNoneP x
theorem cmpOk_and {x y : P} (h : cmpOk x y = true) : okP x = true ∧ okP y = true ∧ PySem.W.alike x y = true ∧ x ≠ .none := by
  unfold cmpOk at h
  simp only [Bool.and_eq_true, Bool.not_eq_true'] at h
  exact ⟨h.1.1.1, h.1.1.2, h.1.2, fun e => by rw [e] at h; exact absurd h.2 (by decide)⟩
def gLt (x y : P) : Option P := if cmpOk x y = true then some (.bool (PySem.W.dataLt x y)) else none
def gGt (x y : P) : Option P := if cmpOk x y = true then some (.bool (PySem.W.dataLt y x)) else none
def gLe (x y : P) : Option P := if cmpOk x y = true then some (.bool (!PySem.W.dataLt y x)) else none
def gGe (x y : P) : Option P := if cmpOk x y = true then some (.bool (!PySem.W.dataLt x y)) else none
theorem og_lt (c : XOk X) : OpG X T (compareOp .Lt) (onP gLt) := op_of fun x y z e pins s σ H G L M a b c' d' v u Q I m r1 r2 e1 e2 ra rb q => by
  unfold gLt at e
  split at e
  · rename_i ho
    cases e
    obtain ⟨o1, o2, al, nn⟩ := cmpOk_and ho
    obtain ⟨as, w1⟩ := Dp.reads I _ _ _ (pv_dp m r1 e1 (okP_plain o1)) ra
    obtain ⟨bs, w2⟩ := Dp.reads I _ _ _ (pv_dp m r2 e2 (okP_plain o2)) rb
    exact PySem.W.lt_data w1 w2 al nn (nofit c o1) (q s (.bl _) _ I rfl (.p (.bl _)))
  · cases e
theorem og_gt (c : XOk X) : OpG X T (compareOp .Gt) (onP gGt) := op_of fun x y z e pins s σ H G L M a b c' d' v u Q I m r1 r2 e1 e2 ra rb q => by
  unfold gGt at e
  split at e
  · rename_i ho
    cases e
    obtain ⟨o1, o2, al, nn⟩ := cmpOk_and ho
    obtain ⟨as, w1⟩ := Dp.reads I _ _ _ (pv_dp m r1 e1 (okP_plain o1)) ra
    obtain ⟨bs, w2⟩ := Dp.reads I _ _ _ (pv_dp m r2 e2 (okP_plain o2)) rb
    exact PySem.W.gt_data w1 w2 al nn (nofit c o1) (q s (.bl _) _ I rfl (.p (.bl _)))
  · cases e
theorem og_le (c : XOk X) : OpG X T (compareOp .LtE) (onP gLe) := op_of fun x y z e pins s σ H G L M a b c' d' v u Q I m r1 r2 e1 e2 ra rb q => by
  unfold gLe at e
  split at e
  · rename_i ho
    cases e
    obtain ⟨o1, o2, al, nn⟩ := cmpOk_and ho
    obtain ⟨as, w1⟩ := Dp.reads I _ _ _ (pv_dp m r1 e1 (okP_plain o1)) ra
    obtain ⟨bs, w2⟩ := Dp.reads I _ _ _ (pv_dp m r2 e2 (okP_plain o2)) rb
    exact PySem.W.le_data w1 w2 al nn (nofit c o1) (q s (.bl _) _ I rfl (.p (.bl _)))
  · cases e
theorem og_ge (c : XOk X) : OpG X T (compareOp .GtE) (onP gGe) := op_of fun x y z e pins s σ H G L M a b c' d' v u Q I m r1 r2 e1 e2 ra rb q => by
  unfold gGe at e
  split at e
  · rename_i ho
    cases e
    obtain ⟨o1, o2, al, nn⟩ := cmpOk_and ho
    obtain ⟨as, w1⟩ := Dp.reads I _ _ _ (pv_dp m r1 e1 (okP_plain o1)) ra
    obtain ⟨bs, w2⟩ := Dp.reads I _ _ _ (pv_dp m r2 e2 (okP_plain o2)) rb
    exact PySem.W.ge_data w1 w2 al nn (nofit c o1) (q s (.bl _) _ I rfl (.p (.bl _)))
  · cases e
/-! in, not in -/
def inP (x y : P) : Option Bool := match y with
  | .list ys => if (okP x && okP (.list ys)) = true then some (ys.any fun z => PyData.eqv z x) else none
  | .tuple ys => if (okP x && okP (.tuple ys)) = true then some (ys.any fun z => PyData.eqv z x) else none
  | .str t => match x with
    | .str u => match u.cps.toList with
      | [k] => some (decide (k ∈ t.cps.toList))
      | _ => none
    | _ => none
  | _ => none
def gIn (x y : P) : Option P := (inP x y).map .bool
def gNotIn (x y : P) : Option P := (inP x y).map fun b => .bool (!b)
theorem sign_of {u : Str} {k : Nat} (h : u.cps.toList = [k]) : u = ⟨#[k]⟩ := by
  cases u with
  | mk a => simp only at h; congr; exact Array.toList_inj.mp h
theorem okList {xs : List P} (h : okP (.list xs) = true) : PyData.plainAll xs = true := by simpa [PyData.plain] using okP_plain h
theorem okTuple {xs : List P} (h : okP (.tuple xs) = true) : PyData.plainAll xs = true := by simpa [PyData.plain] using okP_plain h
theorem infit (c : XOk X) {x : P} {n : Nat} (hx : okP x = true) : X.A.units + 1 + min n x.depth < cLine := by
  have := c.hu
  have := okP_depth hx
  have : min n x.depth ≤ x.depth := Nat.min_le_right _ _
  omega
theorem inP_cases {x y : P} {k : Bool} (h : inP x y = some k) : (∃ ys, y = .list ys) ∨ (∃ ys, y = .tuple ys) ∨ ∃ t, y = .str t := by
  cases y with
  | list ys => exact .inl ⟨ys, rfl⟩
  | tuple ys => exact .inr (.inl ⟨ys, rfl⟩)
  | str t => exact .inr (.inr ⟨t, rfl⟩)
  | none => cases h
  | bool _ => cases h
  | int _ => cases h
  | dict _ => cases h
theorem inP_str {x : P} {t : Str} {k : Bool} (h : inP x (.str t) = some k) : ∃ u c, x = .str u ∧ u.cps.toList = [c] ∧ k = decide (c ∈ t.cps.toList) := by
  unfold inP at h
  dsimp only at h
  cases x with
  | str u =>
    dsimp only at h
    split at h
    · rename_i c hc
      cases h
      exact ⟨u, c, rfl, hc, rfl⟩
    · cases h
  | none => cases h
  | bool _ => cases h
  | int _ => cases h
  | dict _ => cases h
  | list _ => cases h
  | tuple _ => cases h
theorem og_in (c : XOk X) : OpG X T (compareOp .In) (onP gIn) := op_of fun x y z e pins s σ H G L M a b c' d' v u Q I m r1 r2 e1 e2 ra rb q => by
  unfold gIn at e
  cases hb : inP x y with
  | none => rw [hb] at e; cases e
  | some k =>
    rw [hb] at e
    cases e
    have fin := q s (.bl k) _ I rfl (.p (.bl _))
    rcases inP_cases hb with ⟨ys, hy⟩ | ⟨ys, hy⟩ | ⟨t, hy⟩ <;> subst hy
    · unfold inP at hb
      dsimp only at hb
      split at hb
      · rename_i ho
        cases hb
        obtain ⟨o1, o2⟩ := okP_pair ho
        obtain ⟨as, w1⟩ := Dp.reads I _ _ _ (pv_dp m r1 e1 (okP_plain o1)) ra
        obtain ⟨bs, w2⟩ := Dp.reads I _ _ _ (pv_dp m r2 e2 (okP_plain o2)) rb
        exact SeqAt.in_list_data w2 w1 (okList o2) (okP_plain o1) (infit c o1) fin
      · cases hb
    · unfold inP at hb
      dsimp only at hb
      split at hb
      · rename_i ho
        cases hb
        obtain ⟨o1, o2⟩ := okP_pair ho
        obtain ⟨as, w1⟩ := Dp.reads I _ _ _ (pv_dp m r1 e1 (okP_plain o1)) ra
        obtain ⟨bs, w2⟩ := Dp.reads I _ _ _ (pv_dp m r2 e2 (okP_plain o2)) rb
        exact SeqAt.in_tuple_data w2 w1 (okTuple o2) (okP_plain o1) (infit c o1) fin
      · cases hb
    · obtain ⟨u', k', hx, hk, hv⟩ := inP_str hb
      subst hx; subst hv
      have ea := (pv_str r1 e1).1
      have eb := (pv_str r2 e2).1
      refine wpAny_mono (op_in_sign pins s σ H a b v u (fun w H' => w = .bl (decide (k' ∈ _)) ∧ H' = H) I ra rb ⟨k', _, by rw [ea, sign_of hk], eb, rfl, rfl⟩) (fun t' s' ⟨w, H', I', rt, e1, e2⟩ => ?_) fun _ _ h => h
      subst e1; subst e2
      exact q s' _ t' I' rt (.p (.bl _))
theorem og_notin (c : XOk X) : OpG X T (compareOp .NotIn) (onP gNotIn) := op_of fun x y z e pins s σ H G L M a b c' d' v u Q I m r1 r2 e1 e2 ra rb q => by
  unfold gNotIn at e
  cases hb : inP x y with
  | none => rw [hb] at e; cases e
  | some k =>
    rw [hb] at e
    cases e
    have fin := q s (.bl (!k)) _ I rfl (.p (.bl _))
    rcases inP_cases hb with ⟨ys, hy⟩ | ⟨ys, hy⟩ | ⟨t, hy⟩ <;> subst hy
    · unfold inP at hb
      dsimp only at hb
      split at hb
      · rename_i ho
        cases hb
        obtain ⟨o1, o2⟩ := okP_pair ho
        obtain ⟨as, w1⟩ := Dp.reads I _ _ _ (pv_dp m r1 e1 (okP_plain o1)) ra
        obtain ⟨bs, w2⟩ := Dp.reads I _ _ _ (pv_dp m r2 e2 (okP_plain o2)) rb
        exact SeqAt.notIn_list_data w2 w1 (okList o2) (okP_plain o1) (infit c o1) fin
      · cases hb
    · unfold inP at hb
      dsimp only at hb
      split at hb
      · rename_i ho
        cases hb
        obtain ⟨o1, o2⟩ := okP_pair ho
        obtain ⟨as, w1⟩ := Dp.reads I _ _ _ (pv_dp m r1 e1 (okP_plain o1)) ra
        obtain ⟨bs, w2⟩ := Dp.reads I _ _ _ (pv_dp m r2 e2 (okP_plain o2)) rb
        exact SeqAt.notIn_tuple_data w2 w1 (okTuple o2) (okP_plain o1) (infit c o1) fin
      · cases hb
    · obtain ⟨u', k', hx, hk, hv⟩ := inP_str hb
      subst hx; subst hv
      have ea := (pv_str r1 e1).1
      have eb := (pv_str r2 e2).1
      refine wpAny_mono (op_notIn_sign pins s σ H a b v u (fun w H' => w = .bl (!decide (k' ∈ _)) ∧ H' = H) I ra rb ⟨k', _, by rw [ea, sign_of hk], eb, rfl, rfl⟩) (fun t' s' ⟨w, H', I', rt, e1, e2⟩ => ?_) fun _ _ h => h
      subst e1; subst e2
      exact q s' _ t' I' rt (.p (.bl _))
/-! arithmetic -/
theorem of_opr {f : Value → Value → Sem Value} {r : R2} (h : OpR X f r) {pins : List (Addr × Obj)} {s : Shared} {σ : L2.St} {H : Hp} {a b w : V} {v u : Value} {Q : Value → Shared → Prop} (I : Inv X pins σ H s) (ra : RelV a v) (rb : RelV b u)
    (hr : ∀ Q' : VK, Q' w H → r a b H Q') (q : ∀ s' t, Inv X pins σ H s' → RelV w t → Q t s') : wpAny (model X.prog X.w) X.A (f v u) Q X.xe s :=
  wpAny_mono (h pins s σ H a b v u (fun w' H' => w' = w ∧ H' = H) I ra rb (hr _ ⟨rfl, rfl⟩)) (fun t' s' ⟨w', H', I', rt, e1, e2⟩ => by subst e1; subst e2; exact q s' t' I' rt) fun _ _ h => h
def ii (f : Int → Int → Option P) : P → P → Option P := fun x y => match x, y with
  | .int i, .int j => f i j
  | _, _ => none
@[simp] theorem ii_int (f : Int → Int → Option P) (i j : Int) : ii f (.int i) (.int j) = f i j := rfl
theorem og_int {f : Value → Value → Sem Value} {C : Int → Int → Prop} {g : Int → Int → Int} {h : Int → Int → Option P} (ho : OpR X f (rI C fun i j => .int (g i j))) (hh : ∀ i j z, h i j = some z → z = .int (g i j) ∧ C i j) : OpG X T f (onP (ii h)) :=
  op_of fun x y z e pins s σ H G L M a b c' d' v u Q I m r1 r2 e1 e2 ra rb q => by
    unfold ii at e
    split at e
    · rename_i i j
      obtain ⟨e3, hc⟩ := hh i j z e
      subst e3
      have ea := pv_int r1 e1
      have eb := pv_int r2 e2
      exact of_opr ho I ra rb (fun Q' q' => ⟨i, j, ea, eb, hc, q'⟩) fun s' t I' rt => q s' _ t I' rt (.p (.int _))
    · cases e
theorem rI_of {g : Int → Int → V} {f : Value → Value → Sem Value} (h : OpR X f (rI0 g)) : OpR X f (rI (fun _ _ => True) g) := fun pins s σ H x y v u Q I rx ry ⟨i, j, e1, e2, _, q⟩ => h pins s σ H x y v u Q I rx ry ⟨i, j, e1, e2, q⟩
def iSub (i j : Int) : Option P := some (.int (i - j))
@[irreducible] def cMul (i j : Int) : Bool := (decide (-(2 ^ 64) < i) && decide (i < 2 ^ 64)) || (decide (-(2 ^ 64) < j) && decide (j < 2 ^ 64))
def iMul (i j : Int) : Option P := if cMul i j = true then some (.int (i * j)) else none
def iDiv (i j : Int) : Option P := if 0 < j ∧ j < 1073741824 then some (.int (i / j)) else none
def iMod (i j : Int) : Option P := if 0 < j then some (.int (i % j)) else none
@[irreducible] def iPow (i j : Int) : Option P := if 0 ≤ j ∧ j ≤ 1000000 ∧ i.natAbs < 2 ^ 64 then some (.int (i ^ j.toNat)) else none
@[irreducible] def iShl (i j : Int) : Option P := if 0 ≤ j ∧ j ≤ 1000000 ∧ i.natAbs < 2 ^ 64 then some (.int (i * 2 ^ j.toNat)) else none
def iShr (i j : Int) : Option P := if 0 ≤ j then some (.int (i / 2 ^ j.toNat)) else none
def iAnd (i j : Int) : Option P := some (.int (Builtin.bitAnd i j))
def iOr (i j : Int) : Option P := some (.int (Builtin.bitOr i j))
theorem og_sub : OpG X T (binaryOp .Sub) (onP (ii iSub)) := og_int (rI_of op_sub) fun i j z e => by cases e; exact ⟨rfl, trivial⟩
theorem og_mul : OpG X T (binaryOp .Mult) (onP (ii iMul)) := og_int op_mul fun i j z e => by
  unfold iMul at e
  split at e
  · rename_i h
    cases e
    refine ⟨rfl, ?_⟩
    unfold cMul at h
    simp only [Bool.or_eq_true, Bool.and_eq_true, decide_eq_true_eq] at h
    exact h
  · cases e
theorem og_div : OpG X T (binaryOp .FloorDiv) (onP (ii iDiv)) := og_int op_fdiv fun i j z e => by
  unfold iDiv at e
  split at e
  · rename_i h; cases e; exact ⟨rfl, h⟩
  · cases e
theorem og_mod : OpG X T (binaryOp .Mod) (onP (ii iMod)) := og_int op_mod fun i j z e => by
  unfold iMod at e
  split at e
  · rename_i h; cases e; exact ⟨rfl, h⟩
  · cases e
theorem og_pow : OpG X T (binaryOp .Pow) (onP (ii iPow)) := og_int op_pow fun i j z e => by
  unfold iPow at e
  split at e
  · rename_i h; cases e; exact ⟨rfl, h⟩
  · cases e
theorem og_shl : OpG X T (binaryOp .LShift) (onP (ii iShl)) := og_int op_shl fun i j z e => by
  unfold iShl at e
  split at e
  · rename_i h; cases e; exact ⟨rfl, h⟩
  · cases e
theorem og_shr : OpG X T (binaryOp .RShift) (onP (ii iShr)) := og_int op_shr fun i j z e => by
  unfold iShr at e
  split at e
  · rename_i h; cases e; exact ⟨rfl, h⟩
  · cases e
theorem og_and : OpG X T (binaryOp .BitAnd) (onP (ii iAnd)) := og_int (rI_of op_and) fun i j z e => by cases e; exact ⟨rfl, trivial⟩
theorem og_or : OpG X T (binaryOp .BitOr) (onP (ii iOr)) := og_int (rI_of op_or) fun i j z e => by cases e; exact ⟨rfl, trivial⟩
/-- a + b -/
def dAdd : D → D → Mem → Option Ev := fun c d M => match pv c M, pv d M with
  | some (.int i), some (.int j) => some (.d (.p (.int (i + j))))
  | some (.str x), some (.str y) => if x.length + y.length ≤ sizeLine then some (.d (.p (.str (x ++ y)))) else none
  | some (.list xs), some (.list ys) => if xs.length + ys.length ≤ sizeLine then some (.new (.lst (xs ++ ys))) else none
  | some (.tuple xs), some (.tuple ys) => if xs.length + ys.length ≤ sizeLine then some (.d (.p (.tuple (xs ++ ys)))) else none
  | _, _ => none
theorem str_len_add (x y : Str) : (x ++ y).length = x.length + y.length := by
  show (x.cps ++ y.cps).size = _
  rw [Array.size_append]; rfl
theorem rd_lst {H : Hp} {a : Addr} {xs : List V} (h : Rd H a (.lst xs)) : SqL X.K H a xs := .inl h
/-- two lists in a row -/
theorem cat_lists {pins : List (Addr × Obj)} {s : Shared} {σ : L2.St} {H : Hp} {a b : Addr} {xs ys : List V} {v u : Value} {Q : VK} (I : Inv X pins σ H s) (ra : RelV (.ref a) v) (rb : RelV (.ref b) u) (ha : Rd H a (.lst xs)) (hb : Rd H b (.lst ys)) (hz : xs.length + ys.length ≤ sizeLine)
    (q : ∀ p, H p = none → Q (.ref p) (upd H p (.lst (xs ++ ys)))) : wpAny (model X.prog X.w) X.A (binaryOp .Add v u) (EP X pins σ Q) X.xe s := by
  cases ra
  cases rb
  obtain ⟨_, its, n, r, e⟩ := ha.ok I.hok
  obtain ⟨_, its2, n2, r2, e2⟩ := hb.ok I.hok
  have l1 := r.length
  have l2 := r2.length
  refine PySem.P.add_list e e2 ?_ (show its.toArray.size + its2.toArray.size ≤ sizeLine by rw [List.size_toArray, List.size_toArray]; omega)
  have ea : its.toArray ++ its2.toArray = (its ++ its2).toArray := by simp
  rw [ea]
  have hf : H s.heap.objs.size = none := I.hok.fresh (Nat.le_refl _)
  refine ⟨.ref s.heap.objs.size, _, I.laid (t' := s.toks) (a := s.heap.objs.size) (o := .lst (xs ++ ys)) (fun b u e => Heap.get?_push_of_some _ e) (Nat.le_refl _) ⟨by rw [List.length_append]; exact hz, its ++ its2, 0, r.append r2, Heap.get?_push_size _ rfl⟩, rfl, q _ hf⟩
theorem og_add (c : XOk X) : OpG X T (binaryOp .Add) dAdd := by
  intro pins s σ H a b v u Q I ra rb h
  obtain ⟨c', d', r, G, L, M, m, rc, rd, e, q⟩ := h
  unfold dAdd at e
  split at e
  · rename_i i j e1 e2
    cases e
    have ea := pv_int rc e1
    have eb := pv_int rd e2
    subst ea; subst eb
    exact op_add pins s σ H _ _ v u Q I ra rb ⟨i, j, rfl, rfl, q _ H L Nxt.refl m (.p (.int _))⟩
  · rename_i x y e1 e2
    split at e
    · rename_i hz
      cases e
      have ea := pv_str rc e1
      have eb := pv_str rd e2
      rw [ea.1] at ra; rw [eb.1] at rb
      exact op_add_str pins s σ H _ _ v u Q I ra rb ⟨x, y, rfl, rfl, hz, q _ H L Nxt.refl m (.p (.str _ (by rw [str_len_add]; exact hz)))⟩
    · cases e
  · rename_i xs ys e1 e2
    split at e
    · rename_i hz
      cases e
      obtain ⟨p1, vs, rfl, h1, l1⟩ := pv_list m rc e1
      obtain ⟨p2, us, rfl, h2, l2⟩ := pv_list m rd e2
      refine cat_lists I ra rb (.inl h1) (.inl h2) (by rw [l1.length, l2.length]; exact hz) fun p hp => ?_
      exact q p _ H L hp Nxt.refl m (.lst (l1.append l2))
    · cases e
  · rename_i xs ys e1 e2
    split at e
    · rename_i hz
      cases e
      obtain ⟨p1, vs, rfl, h1, l1, w1⟩ := pv_tuple rc e1
      obtain ⟨p2, us, rfl, h2, l2, w2⟩ := pv_tuple rd e2
      refine op_catA pins s σ H _ _ v u Q I ra rb ⟨p1, p2, vs, us, rfl, rfl, h1, h2, by rw [l1.length, l2.length]; exact hz, fun z => ?_, fun _ z => ?_, fun _ _ p hp => ?_⟩
      · have : xs = [] := by
          subst z; cases l1; rfl
        subst this
        exact q _ H L Nxt.refl m (.p w2)
      · have : ys = [] := by
          subst z; cases l2; rfl
        subst this
        rw [List.append_nil] at q
        exact q _ H L Nxt.refl m (.p w1)
      · refine q _ _ L (Nxt.fresh hp) (m.fresh hp) (.p (.tup (.inl upd_same) (m.free hp) (RpAll.ext (Nxt.fresh hp).keeps _ _ (l1.append l2))))
    · cases e
  · cases e
/-! is -/
def dIs : D → D → Mem → Option Ev := fun c d _ => match d with
  | .p .none => match c with
    | .p .none => some (.d (.p (.bool true)))
    | _ => some (.d (.p (.bool false)))
  | .p (.bool b) => match c with
    | .p (.bool a) => some (.d (.p (.bool (decide (a = b)))))
    | _ => none
  | _ => none
def dIsNot : D → D → Mem → Option Ev := fun c d _ => match d with
  | .p .none => match c with
    | .p .none => some (.d (.p (.bool false)))
    | _ => some (.d (.p (.bool true)))
  | .p (.bool b) => match c with
    | .p (.bool a) => some (.d (.p (.bool (!decide (a = b)))))
    | _ => none
  | _ => none
theorem rd_notnone {K : PySem.W.Frag} {H : Hp} {G : Addr → Prop} {L : List Addr} {M : Mem} {v : V} {c : D} (r : RD K T H G L M v c) (hc : c ≠ .p .none) : v ≠ .non := by
  intro e
  subst e
  cases r with
  | p r => cases r; exact hc rfl
theorem og_is : OpG X T (compareOp .Is) dIs := by
  intro pins s σ H a b v u Q I ra rb h
  obtain ⟨c', d', r, G, L, M, m, rc, rd, e, q⟩ := h
  unfold dIs at e
  split at e
  · have eb := rd.none
    subst eb
    split at e
    · cases e
      have ea := rc.none
      subst ea
      exact op_isN pins s σ H _ _ v u Q I ra rb ⟨rfl, q _ H L Nxt.refl m (.p (.bl _))⟩
    · rename_i hn
      cases e
      refine op_isN pins s σ H _ _ v u Q I ra rb ⟨rfl, ?_⟩
      rw [decide_eq_false (rd_notnone rc hn)]
      exact q _ H L Nxt.refl m (.p (.bl _))
  · have eb := rd.bool
    subst eb
    split at e
    · cases e
      have ea := rc.bool
      subst ea
      exact op_isBl pins s σ H _ _ v u Q I ra rb ⟨_, _, rfl, rfl, q _ H L Nxt.refl m (.p (.bl _))⟩
    · cases e
  · cases e
theorem og_isnot : OpG X T (compareOp .IsNot) dIsNot := by
  intro pins s σ H a b v u Q I ra rb h
  obtain ⟨c', d', r, G, L, M, m, rc, rd, e, q⟩ := h
  unfold dIsNot at e
  split at e
  · have eb := rd.none
    subst eb
    split at e
    · cases e
      have ea := rc.none
      subst ea
      exact op_notN pins s σ H _ _ v u Q I ra rb ⟨rfl, q _ H L Nxt.refl m (.p (.bl _))⟩
    · rename_i hn
      cases e
      refine op_notN pins s σ H _ _ v u Q I ra rb ⟨rfl, ?_⟩
      rw [decide_eq_false (rd_notnone rc hn)]
      exact q _ H L Nxt.refl m (.p (.bl _))
  · have eb := rd.bool
    subst eb
    split at e
    · cases e
      have ea := rc.bool
      subst ea
      exact op_notBl pins s σ H _ _ v u Q I ra rb ⟨_, _, rfl, rfl, q _ H L Nxt.refl m (.p (.bl _))⟩
    · cases e
  · cases e
def dNeg : D → Mem → Option Ev := fun c _ => match c with
  | .p (.int i) => some (.d (.p (.int (-i))))
  | _ => none
theorem ug_neg : UnG X T (unaryOp .USub) dNeg := by
  intro pins s σ H a v Q I ra h
  obtain ⟨c', r, G, L, M, m, rc, e, q⟩ := h
  unfold dNeg at e
  split at e
  · cases e
    have ea := rc.int
    subst ea
    exact un_neg pins s σ H _ v Q I ra ⟨_, rfl, q _ H L Nxt.refl m (.p (.int _))⟩
  · cases e
def dInv : D → Mem → Option Ev := fun c _ => match c with
  | .p (.int i) => some (.d (.p (.int (Builtin.bitNot i))))
  | _ => none
theorem ug_inv : UnG X T (unaryOp .Invert) dInv := by
  intro pins s σ H a v Q I ra h
  obtain ⟨c', r, G, L, M, m, rc, e, q⟩ := h
  unfold dInv at e
  split at e
  · cases e
    have ea := rc.int
    subst ea
    exact un_inv pins s σ H _ v Q I ra ⟨_, rfl, q _ H L Nxt.refl m (.p (.int _))⟩
  · cases e
end
/-- which operation an operator is -/
def binG : Operator → Option (D → D → Mem → Option Ev)
  | .Add => some dAdd
  | .Sub => some (onP (ii iSub))
  | .Mult => some (onP (ii iMul))
  | .FloorDiv => some (onP (ii iDiv))
  | .Mod => some (onP (ii iMod))
  | .Pow => some (onP (ii iPow))
  | .LShift => some (onP (ii iShl))
  | .RShift => some (onP (ii iShr))
  | .BitAnd => some (onP (ii iAnd))
  | .BitOr => some (onP (ii iOr))
  | _ => none
def cmpG : CmpOp → D → D → Mem → Option Ev
  | .Eq => onP gEq
  | .NotEq => onP gNe
  | .Lt => onP gLt
  | .LtE => onP gLe
  | .Gt => onP gGt
  | .GtE => onP gGe
  | .In => onP gIn
  | .NotIn => onP gNotIn
  | .Is => dIs
  | .IsNot => dIsNot
def unG : UnaryOp → Option (D → Mem → Option Ev)
  | .USub => some dNeg
  | .Invert => some dInv
  | _ => none
theorem binG_ok {X : Cx} {T : Tb} (c : XOk X) {op : Operator} {g : D → D → Mem → Option Ev} (h : binG op = some g) : OpG X T (binaryOp op) g := by
  cases op <;> first
    | (injection h with h; subst h; first | exact og_add c | exact og_sub | exact og_mul | exact og_div | exact og_mod | exact og_pow | exact og_shl | exact og_shr | exact og_and | exact og_or)
    | cases h
theorem cmpG_ok {X : Cx} {T : Tb} (c : XOk X) (op : CmpOp) : OpG X T (compareOp op) (cmpG op) := by
  cases op
  · exact og_eq c
  · exact og_ne c
  · exact og_lt c
  · exact og_le c
  · exact og_gt c
  · exact og_ge c
  · exact og_is
  · exact og_isnot
  · exact og_in c
  · exact og_notin c
theorem unG_ok {X : Cx} {T : Tb} {op : UnaryOp} {g : D → Mem → Option Ev} (h : unG op = some g) : UnG X T (unaryOp op) g := by
  cases op <;> first
    | (injection h with h; subst h; first | exact ug_neg | exact ug_inv)
    | cases h
end Cb

set_option Elab.async false
set_option linter.all false
set_option maxRecDepth 100000
/-! Cb, part D: arguments, displays, subscripts, slices, calls of built-ins, methods and defs. -/
namespace Cb
open PySem PySem.Spec PyProof.Rows L2

/-! ### arguments -/
def starB : Expr → Bool
  | .Starred .. => true
  | _ => false
theorem star_cons {e : Expr} {es : List Expr} {env : PySem.Env} (h : starB e = false) : starEach (e :: es) env = (false, eval e env) :: starEach es env := by
  cases e <;> first | rfl | cases h
theorem star_any {es : List Expr} {env : PySem.Env} {pos : Pos} (h : es.any starB = false) : (backTo pos (starEach es env)).any (·.1) = false := by
  induction es with
  | nil => rfl
  | cons e es ih =>
    rw [List.any_cons, Bool.or_eq_false_iff] at h
    rw [star_cons h.1]
    show (false || (backTo pos (starEach es env)).any (·.1)) = false
    rw [ih h.2]; rfl
def aNil : AFn := fun _ M => .ok [] M
def aCons (φ : PFn) (ψ : AFn) : AFn := fun ρ M => (stl (φ ρ M)).bind fun x M1 => (ψ ρ M1).bind fun xs M2 => .ok (x :: xs) M2
section
variable {X : Cx} {T : Tb} {W : WX} {a b e : Expr} {es : List Expr} {φ ψ : PFn} {α : AFn} {pos : Pos}
theorem ad_nil : AD X T W aNil [] := PA.imp pa_nil fun σ H Q h => by
  obtain ⟨ρ, G, L, M, s, h⟩ := h
  exact h [] H L Nxt.refl s.mr .nil
theorem ad_cons (hs : starB e = false) (he : PD X T W φ e) (hr : AD X T W α es) : AD X T W (aCons φ α) (e :: es) := PA.imp (pa_cons he hr (star_cons hs)) fun σ H Q h => by
  obtain ⟨ρ, G, L, M, s, h⟩ := h
  refine ⟨ρ, G, L, M, s, (Post.bindA h).mono fun v H1 ⟨x, L1, M1, n1, m1, r1, h1⟩ => ?_⟩
  refine ⟨ρ, G, L1, M1, s.ext n1 m1, (PostA.bindA h1).mono fun vs H2 ⟨ds, L2, M2, n2, m2, r2, h2⟩ => ?_⟩
  exact h2 _ H2 L2 Nxt.refl m2 (.cons (r1.ext n2) r2)

/-! ### displays: what is put into a container is plain from now on -/
/-- plain data out of a value; a changing object is changed no more -/
def pur : D → Mem → Option (P × Mem)
  | .p d, M => some (d, M)
  | .obj n, M => match M[n]? with
    | some (.lst xs) => some (.list xs, M.set n .dead)
    | some (.dct kvs) => some (.dict kvs, M.set n .dead)
    | _ => none
  | _, _ => none
@[simp] theorem pur_p (d : P) (M : Mem) : pur (.p d) M = some (d, M) := rfl
theorem pur_ok {K : PySem.W.Frag} {H : Hp} {G : Addr → Prop} {L : List Addr} {M M' : Mem} {v : V} {d : D} {x : P} (m : MR K H G L M) (r : RD K T H G L M v d) (h : pur d M = some (x, M')) : Nxt H L M H L M' ∧ MR K H G L M' ∧ Rp K H (Fbd L M' G) v x := by
  cases r with
  | p r => simp only [pur_p, Option.some.injEq, Prod.mk.injEq] at h; obtain ⟨e1, e2⟩ := h; subst e1; subst e2; exact ⟨Nxt.refl, m, r⟩
  | @obj n a e =>
    unfold pur at h
    cases e2 : M[n]? with
    | none => simp [e2] at h
    | some o =>
      cases o with
      | dead => simp [e2] at h
      | lst xs => simp [e2] at h; obtain ⟨e3, e4⟩ := h; subst e3; subst e4; exact ⟨Nxt.freeze, m.freeze, m.frozen e e2 rfl⟩
      | dct xs => simp [e2] at h; obtain ⟨e3, e4⟩ := h; subst e3; subst e4; exact ⟨Nxt.freeze, m.freeze, m.frozen e e2 rfl⟩
  | fn _ => simp [pur] at h
  | ty _ => simp [pur] at h
  | frz _ _ => simp [pur] at h
def purs : List D → Mem → Option (List P × Mem)
  | [], M => some ([], M)
  | d :: ds, M => match pur d M with
    | some (x, M1) => match purs ds M1 with
      | some (xs, M2) => some (x :: xs, M2)
      | none => none
    | none => none
@[simp] theorem purs_nil (M : Mem) : purs [] M = some ([], M) := rfl
@[simp] theorem purs_cons_p (d : P) (ds : List D) (M : Mem) : purs (.p d :: ds) M = match purs ds M with
      | some (xs, M2) => some (d :: xs, M2)
      | none => none := rfl
theorem purs_ok {K : PySem.W.Frag} {H : Hp} {G : Addr → Prop} {L : List Addr} : ∀ {ds : List D} {M M' : Mem} {vs : List V} {xs : List P}, MR K H G L M → RDs K T H G L M vs ds → purs ds M = some (xs, M') → Nxt H L M H L M' ∧ MR K H G L M' ∧ RpAll K H (Fbd L M' G) vs xs
  | [], M, M', vs, xs, m, r, h => by
    simp only [purs_nil, Option.some.injEq, Prod.mk.injEq] at h
    obtain ⟨e1, e2⟩ := h; subst e1; subst e2
    cases r
    exact ⟨Nxt.refl, m, .nil⟩
  | d :: ds, M, M', vs, xs, m, r, h => by
    unfold purs at h
    cases r with
    | cons r rs =>
      split at h
      · rename_i x M1 e1
        split at h
        · rename_i xs' M2 e2
          cases h
          obtain ⟨n1, m1, q1⟩ := pur_ok m r e1
          obtain ⟨n2, m2, q2⟩ := purs_ok m1 (RDs.ext n1 rs) e2
          exact ⟨n1.trans n2, m2, .cons (Rp.ext n2.keeps _ _ q1) q2⟩
        · cases h
      · cases h
def eTup (ψ : AFn) : PFn := fun ρ M => (ψ ρ M).bind fun ds M1 => match purs ds M1 with
  | some (xs, M2) => if xs.length ≤ sizeLine then .ok (.d (.p (.tuple xs))) M2 else .bad
  | none => .bad
def eLst (ψ : AFn) : PFn := fun ρ M => (ψ ρ M).bind fun ds M1 => match purs ds M1 with
  | some (xs, M2) => if xs.length ≤ sizeLine then .ok (.new (.lst xs)) M2 else .bad
  | none => .bad
theorem pd_tup {x1 : Nat} (h : AD X T W α es) : PD X T W (eTup α) (.Tuple es x1 pos) := PE.imp (pe_tup h) fun σ H Q h => by
  obtain ⟨ρ, G, L, M, s, h⟩ := h
  refine ⟨ρ, G, L, M, s, (PostA.bind h).mono fun vs H1 ⟨ds, L1, M1, n1, m1, r1, h1⟩ => ?_⟩
  split at h1
  · rename_i xs M2 e
    obtain ⟨n2, m2, q⟩ := purs_ok m1 r1 e
    split at h1
    · rename_i hz
      refine ⟨by rw [q.length]; exact hz, fun p hp => ?_⟩
      exact h1 _ _ L1 (n2.trans (Nxt.fresh hp)) (m2.fresh hp) (.p (.tup (.inl upd_same) (m2.free hp) (RpAll.ext (Nxt.fresh hp).keeps _ _ q)))
    · exact h1.elim
  · exact h1.elim
theorem pd_lst (h : AD X T W α es) : PD X T W (eLst α) (.List es pos) := PE.imp (pe_lst h) fun σ H Q h => by
  obtain ⟨ρ, G, L, M, s, h⟩ := h
  refine ⟨ρ, G, L, M, s, (PostA.bind h).mono fun vs H1 ⟨ds, L1, M1, n1, m1, r1, h1⟩ => ?_⟩
  split at h1
  · rename_i xs M2 e
    obtain ⟨n2, m2, q⟩ := purs_ok m1 r1 e
    split at h1
    · rename_i hz
      exact ⟨by rw [q.length]; exact hz, fun p hp => h1 p _ H1 L1 hp n2 m2 (.lst q)⟩
    · exact h1.elim
  · exact h1.elim

/-! ### subscripts -/
/-- the item of a dict -/
def keqP : P → P → Bool
  | .int i, .int j => i == j
  | .str x, .str y => x == y
  | _, _ => false
def dgetP (kvs : List (P × P)) (k : P) : Option P := (kvs.find? fun kv => keqP kv.1 k).map (·.2)
def dputP (kvs : List (P × P)) (k v : P) : List (P × P) := if (kvs.any fun kv => keqP kv.1 k) = true then kvs.map (fun kv => if keqP kv.1 k = true then (kv.1, v) else kv) else kvs ++ [(k, v)]
/-- what is a key of such a dict -/
def keyOf : P → Option Key
  | .int i => some (.inl i)
  | .str x => some (.inr x)
  | _ => none
theorem keyOf_P {k : P} {q : Key} (h : keyOf k = some q) : k = keyP q := by
  cases k <;> simp [keyOf] at h <;> subst h <;> rfl
theorem keqP_P (a b : Key) : keqP (keyP a) (keyP b) = decide (a = b) := by
  cases a with
  | inl i =>
    cases b with
    | inl j => show (i == j) = _; rw [key_ll]
    | inr y => show false = _; rw [key_lr]
  | inr x =>
    cases b with
    | inl j => show false = _; rw [key_rl]
    | inr y => show (x == y) = _; rw [key_rr, Bool.beq_eq_decide_eq]
section
variable {K : PySem.W.Frag} {H : Hp} {Fb : Addr → Prop}
theorem RpKV.get : ∀ {kvs : List (Key × V)} {ds : List (P × P)} {q : Key} {d : P}, RpKV K H Fb kvs ds → dgetP ds (keyP q) = some d → ∃ v, valV kvs q = some v ∧ Rp K H Fb v d
  | _, _, _, _, .nil, h => by simp [dgetP] at h
  | _, _, q, d, .cons (k := k) (v := v) (vs := vs) (d := d') (ds := ds) r t, h => by
    unfold dgetP at h
    rw [List.find?_cons, keqP_P] at h
    by_cases e : k = q
    · rw [decide_eq_true e] at h
      simp at h
      subst h
      exact ⟨v, valV_pos e, r⟩
    · rw [decide_eq_false e] at h
      obtain ⟨v', h1, h2⟩ := RpKV.get (q := q) (d := d) t h
      exact ⟨v', by rw [valV_neg e]; exact h1, h2⟩
theorem RpKV.has : ∀ {kvs : List (Key × V)} {ds : List (P × P)} {q : Key}, RpKV K H Fb kvs ds → (ds.any fun kv => keqP kv.1 (keyP q)) = (kvs.any fun kv => decide (kv.1 = q))
  | _, _, _, .nil => rfl
  | _, _, q, .cons (k := k) r t => by
    rw [List.any_cons, List.any_cons, keqP_P, RpKV.has t]
theorem RpKV.snoc : ∀ {kvs : List (Key × V)} {ds : List (P × P)} {q : Key} {v : V} {d : P}, RpKV K H Fb kvs ds → Rp K H Fb v d → RpKV K H Fb (kvs ++ [(q, v)]) (ds ++ [(keyP q, d)])
  | _, _, _, _, _, .nil, r => .cons r .nil
  | _, _, _, _, _, .cons r0 t, r => .cons r0 (RpKV.snoc t r)
theorem RpKV.repl : ∀ {kvs : List (Key × V)} {ds : List (P × P)} {q : Key} {v : V} {d : P}, RpKV K H Fb kvs ds → Rp K H Fb v d →
    RpKV K H Fb (kvs.map fun kv => if kv.1 = q then (kv.1, v) else kv) (ds.map fun kv => if keqP kv.1 (keyP q) = true then (kv.1, d) else kv)
  | _, _, _, _, _, .nil, _ => .nil
  | _, _, q, v, d, .cons (k := k) (v := v0) (d := d0) r0 t, r => by
    rw [List.map_cons, List.map_cons]
    by_cases e : k = q
    · simp only [keqP_P, if_pos e, decide_eq_true e, if_true]
      exact .cons r (RpKV.repl t r)
    · simp only [keqP_P, if_neg e, decide_eq_false e, Bool.false_eq_true, if_false]
      exact .cons r0 (RpKV.repl t r)
theorem RpKV.put {kvs : List (Key × V)} {ds : List (P × P)} {q : Key} {v : V} {d : P} (t : RpKV K H Fb kvs ds) (r : Rp K H Fb v d) : RpKV K H Fb (putK kvs q v) (dputP ds (keyP q) d) := by
  unfold putK dputP
  rw [t.has (q := q)]
  split
  · exact t.repl r
  · exact t.snoc r
theorem RpKV.length : ∀ {kvs : List (Key × V)} {ds : List (P × P)}, RpKV K H Fb kvs ds → kvs.length = ds.length
  | _, _, .nil => rfl
  | _, _, .cons _ t => by rw [List.length_cons, List.length_cons, t.length]
theorem rp_key {q : Key} (h : ∀ x, q = .inr x → x.length ≤ sizeLine) : Rp K H Fb (kV q) (keyP q) := by
  cases q with
  | inl i => exact .int i
  | inr x => exact .str x (h x rfl)
theorem kV_of {v : V} {k : P} {q : Key} (r : Rp K H Fb v k) (h : keyOf k = some q) : v = kV q := by
  rw [keyOf_P h] at r
  cases q with
  | inl i => cases r; rfl
  | inr x => cases r; rfl
end
theorem pv_dict {K : PySem.W.Frag} {H : Hp} {G : Addr → Prop} {L : List Addr} {M : Mem} (m : MR K H G L M) {v : V} {d : D} {xs : List (P × P)} (r : RD K T H G L M v d) (h : pv d M = some (.dict xs)) : ∃ a kvs, v = .ref a ∧ Rd H a (.dK kvs) ∧ RpKV K H (Fbd L M G) kvs xs := by
  cases r with
  | p r =>
    simp only [pv_p, Option.some.injEq] at h
    subst h
    cases r with
    | dct h hn r => exact ⟨_, _, rfl, h, r⟩
  | @obj n a e =>
    unfold pv at h
    cases e2 : M[n]? with
    | none => simp [e2] at h
    | some o =>
      cases o with
      | dead => simp [e2] at h
      | lst ys => simp [e2] at h
      | dct kvs =>
        simp [e2] at h
        subst h
        obtain ⟨ho, e3, c⟩ := m.at_ n a _ e e2 rfl
        cases c with
        | dct r => exact ⟨a, _, rfl, .inl e3, r⟩
  | fn _ => simp [pv] at h
  | ty _ => simp [pv] at h
  | frz _ _ => simp [pv] at h
/-- a[i] -/
def dSub : D → D → Mem → Option Ev := fun c d M => match pv c M with
  | some (.list xs) => match d with
    | .p (.int i) => (atI xs i).map fun z => .d (.p z)
    | _ => none
  | some (.tuple xs) => match d with
    | .p (.int i) => (atI xs i).map fun z => .d (.p z)
    | _ => none
  | some (.str x) => match d with
    | .p (.int i) => (atI x.cps.toList i).map fun k => .d (.p (.str ⟨#[k]⟩))
    | _ => none
  | some (.dict kvs) => match d with
    | .p k => match keyOf k with
      | some _ => (dgetP kvs k).map fun z => .d (.p z)
      | none => none
    | _ => none
  | _ => none
theorem rp_atI {K : PySem.W.Frag} {H : Hp} {Fb : Addr → Prop} {vs : List V} {ds : List P} {i : Int} {d : P} (r : RpAll K H Fb vs ds) (h : atI ds i = some d) : ∃ v, atI vs i = some v ∧ Rp K H Fb v d := by
  unfold atI at h ⊢
  rw [← r.length] at h
  cases e : ixN vs.length i with
  | none => rw [e] at h; cases h
  | some j => rw [e] at h; exact r.get h
theorem one_le_line : 1 ≤ sizeLine := by rw [sizeLine_eq]; decide
/-- a dict's item, by values -/
theorem ix_dict (hu : X.A.units + 1 < cLine) : IxR X (fun x y H Q => ∃ a v, x = .ref a ∧ DGet H a y (some v) ∧ Q v H) := by
  intro value slice pins s σ H x y v u Q I rx ry h hs
  obtain ⟨a, z, rfl, g, q⟩ := h
  cases rx
  exact tail_any (dict_typeIs I g) PySem.F.slot_dict_getitem.lookup (d_getItem (Q := EP X pins σ Q) hu I g ry fun w' s3 I3 rw' => ⟨z, H, I3, rw', q⟩) hs

def IxG (X : Cx) (T : Tb) (g : D → D → Mem → Option Ev) : Prop :=
  IxR X fun x y H Q => ∃ a b r G L M, MR X.K H G L M ∧ RD X.K T H G L M x a ∧ RD X.K T H G L M y b ∧ g a b M = some r ∧ Post X.K T H G L M (.ok r M) Q never
theorem ig_sub (c : XOk X) : IxG X T dSub := by
  intro value slice pins s σ H x y v u Q I rx ry h hs
  obtain ⟨a, b, r, G, L, M, m, ra, rb, e, q⟩ := h
  unfold dSub at e
  split at e
  · rename_i xs e1
    split at e
    · rename_i i
      obtain ⟨p, vs, rfl, h1, r1⟩ := pv_list m ra e1
      cases hz : atI xs i with
      | none => rw [hz] at e; cases e
      | some z =>
        rw [hz] at e; cases e
        obtain ⟨w, hw, rw'⟩ := rp_atI r1 hz
        exact ix_list value slice pins s σ H _ _ v u Q I rx ry ⟨p, vs, i, w, rfl, rb.int, .inl (.inl h1), hw, q w H L Nxt.refl m (.p rw')⟩ hs
    · cases e
  · rename_i xs e1
    split at e
    · rename_i i
      obtain ⟨p, vs, rfl, h1, r1, _⟩ := pv_tuple ra e1
      cases hz : atI xs i with
      | none => rw [hz] at e; cases e
      | some z =>
        rw [hz] at e; cases e
        obtain ⟨w, hw, rw'⟩ := rp_atI r1 hz
        exact ix_tup value slice pins s σ H _ _ v u Q I rx ry ⟨p, vs, i, w, rfl, rb.int, h1, hw, q w H L Nxt.refl m (.p rw')⟩ hs
    · cases e
  · rename_i z e1
    split at e
    · rename_i i
      obtain ⟨ez, hl⟩ := pv_str ra e1
      cases hz : atI z.cps.toList i with
      | none => rw [hz] at e; cases e
      | some k =>
        rw [hz] at e; cases e
        exact ix_str value slice pins s σ H _ _ v u Q I rx ry ⟨z, i, k, ez, rb.int, hl, hz, q _ H L Nxt.refl m (.p (.str _ one_le_line))⟩ hs
    · cases e
  · rename_i kvs e1
    split at e
    · rename_i k
      split at e
      · rename_i qk hk
        obtain ⟨p, vs, rfl, h1, r1⟩ := pv_dict m ra e1
        cases hz : dgetP kvs k with
        | none => rw [hz] at e; cases e
        | some z =>
          rw [hz] at e; cases e
          have ek := keyOf_P hk
          rw [ek] at hz
          obtain ⟨w, hw, rw'⟩ := r1.get hz
          have ey : y = kV qk := by cases rb with | p rb => exact kV_of rb hk
          refine ix_dict (by have := c.hu; omega) value slice pins s σ H _ _ v u Q I rx ry ⟨p, w, rfl, .inl ⟨vs, qk, h1, ey, hw.symm⟩, q w H L Nxt.refl m (.p rw')⟩ hs
      · cases e
    · cases e
  · cases e
def ixB : Expr → Bool
  | .Slice .. => false
  | .Tuple .. => false
  | _ => true
theorem plainIx {b : Expr} (h : ixB b = true) : PlainIx b := by
  cases b <;> first | (intro _ _; rfl) | cases h
theorem pd_sub (c : XOk X) (ha : PD X T W φ a) (hb : PD X T W ψ b) (h : ixB b = true) : PD X T W (eBin dSub φ ψ) (.Subscript a b pos) :=
  PE.imp (pe_ix (ig_sub (T := T) c) ha hb (plainIx h)) fun σ H Q h => bin_go (f := binaryOp .Add) h
/-! ### slices -/
def cutP (xs : List P) (lo hi : Option Int) : List P := (xs.drop (HT.sIx xs.length 0 lo)).take (HT.sIx xs.length xs.length hi - HT.sIx xs.length 0 lo)
theorem rp_cut {K : PySem.W.Frag} {H : Hp} {Fb : Addr → Prop} {vs : List V} {ds : List P} (r : RpAll K H Fb vs ds) (lo hi : Option Int) : RpAll K H Fb (cutV vs lo hi) (cutP ds lo hi) := by
  unfold cutV cutP
  rw [r.length]
  exact (r.drop _).take _
def dSl (lo hi : Option Int) : D → Mem → Option Ev := fun c M => match c with
  | .frz xs => some (.new (.lst (cutP xs lo hi)))
  | c => match pv c M with
  | some (.list xs) => some (.new (.lst (cutP xs lo hi)))
  | some (.tuple xs) => some (.d (.p (.tuple (cutP xs lo hi))))
  | _ => none
def SlG (X : Cx) (T : Tb) (g : Option Int → Option Int → D → Mem → Option Ev) : Prop :=
  SlR X fun x lo hi H Q => ∃ a r G L M, MR X.K H G L M ∧ RD X.K T H G L M x a ∧ g lo hi a M = some r ∧ Post X.K T H G L M (.ok r M) Q never
theorem sg_sl : SlG X T dSl := by
  intro pins s σ H x v vl vu lo hi sl Q I rx hs pl pu h
  obtain ⟨a, r, G, L, M, m, ra, e, q⟩ := h
  unfold dSl at e
  split at e
  · cases e
    cases ra with
    | @frz p vs xs h1 r1 =>
    exact sl_list pins s σ H _ v vl vu lo hi sl Q I rx hs pl pu ⟨p, vs, rfl, h1.sq, fun p' hp => q p' _ H L hp Nxt.refl m (.lst (rp_cut r1 lo hi))⟩
  split at e
  · rename_i xs e1
    obtain ⟨p, vs, rfl, h1, r1⟩ := pv_list m ra e1
    cases e
    exact sl_list pins s σ H _ v vl vu lo hi sl Q I rx hs pl pu ⟨p, vs, rfl, .inl (.inl h1), fun p' hp => q p' _ H L hp Nxt.refl m (.lst (rp_cut r1 lo hi))⟩
  · rename_i xs e1
    obtain ⟨p, vs, rfl, h1, r1, rt⟩ := pv_tuple ra e1
    cases e
    refine sl_tupA pins s σ H _ v vl vu lo hi sl Q I rx hs pl pu ⟨p, vs, rfl, h1, fun hw => ?_, fun _ p' hp => ?_⟩
    · have ec : cutP xs lo hi = xs := by
        unfold cutP
        rw [r1.length] at hw
        rw [hw.1, hw.2]
        simp
      rw [ec] at q
      exact q _ H L Nxt.refl m (.p rt)
    · exact q _ _ L (Nxt.fresh hp) (m.fresh hp) (.p (.tup (.inl upd_same) (m.free hp) (RpAll.ext (Nxt.fresh hp).keeps _ _ (rp_cut r1 lo hi))))
  · cases e
/-- a bound of a slice -/
def asI : D → Option Int
  | .p (.int i) => some i
  | _ => none
abbrev OFn := Env → Mem → Res (Option Int)
def oNone : OFn := fun _ M => .ok none M
def oSome (φ : PFn) : OFn := fun ρ M => (stl (φ ρ M)).bind fun x M1 => match asI x with
  | some i => .ok (some i) M1
  | none => .bad
def PostO (K : PySem.W.Frag) (T : Tb) (H : Hp) (G : Addr → Prop) (L : List Addr) (M : Mem) (r : Res (Option Int)) (Q : Option Int → Hp → Prop) (E : XK) : Prop :=
  match r with
  | .ok b M' => ∀ H' L', Nxt H L M H' L' M' → MR K H' G L' M' → Q b H'
  | .err x M' => ∀ cls d H' L', Nxt H L M H' L' M' → MR K H' G L' M' → XR K T H' (Fbd L' M' G) x cls d → E cls d H'
  | .bad => False
theorem PostO.start {K : PySem.W.Frag} {H H1 : Hp} {G : Addr → Prop} {L L1 : List Addr} {M M1 : Mem} {r : Res (Option Int)} {Q : Option Int → Hp → Prop} {E : XK} (x : Nxt H L M H1 L1 M1) (h : PostO K T H G L M r Q E) : PostO K T H1 G L1 M1 r Q E := by
  cases r with
  | ok e M' => exact fun H' L' n m => h H' L' (x.trans n) m
  | err y M' => exact fun cls d H' L' n m q => h cls d H' L' (x.trans n) m q
  | bad => exact h
theorem Post.bindO {K : PySem.W.Frag} {H : Hp} {G : Addr → Prop} {L : List Addr} {M : Mem} {r : Res Ev} {k : D → Mem → Res (Option Int)} {Q : Option Int → Hp → Prop} {E : XK} (h : PostO K T H G L M ((stl r).bind k) Q E) :
    Post K T H G L M r (fun v H1 => ∃ x L1 M1, Nxt H L M H1 L1 M1 ∧ MR K H1 G L1 M1 ∧ RD K T H1 G L1 M1 v x ∧ PostO K T H1 G L1 M1 (k x M1) Q E) E := by
  cases r with
  | ok e M' =>
    cases e with
    | d y => exact fun v H' L' n m q => ⟨y, L', M', n, m, q, h.start n⟩
    | new o =>
      intro p ho H' L' hp n m c
      have n2 : Nxt H L M (upd H' p ho) L' M' := n.trans (Nxt.fresh hp)
      exact ⟨.p o.toP, L', M', n2, m.fresh hp, .p (c.rp m hp), h.start n2⟩
  | err y M' => exact h
  | bad => exact h
theorem PostO.bind {K : PySem.W.Frag} {H : Hp} {G : Addr → Prop} {L : List Addr} {M : Mem} {r : Res (Option Int)} {k : Option Int → Mem → Res Ev} {Q : VK} {E : XK} (h : Post K T H G L M (r.bind k) Q E) :
    PostO K T H G L M r (fun b H1 => ∃ L1 M1, Nxt H L M H1 L1 M1 ∧ MR K H1 G L1 M1 ∧ Post K T H1 G L1 M1 (k b M1) Q E) E := by
  cases r with
  | ok e M' => exact fun H' L' n m => ⟨L', M', n, m, h.start n⟩
  | err y M' => exact h
  | bad => exact h
def tO (X : Cx) (T : Tb) (W : WX) (φ : OFn) : TO := fun σ H Q => ∃ ρ G L M, SR X.K T σ H ρ G L M ∧ PostO X.K T H G L M (φ ρ M) Q fun cls d H' => W cls d σ H'
def OD (X : Cx) (T : Tb) (W : WX) (φ : OFn) (e : Option Expr) : Prop := PO X e (tO X T W φ)
theorem PO.imp {e : Option Expr} {t t' : TO} (h : PO X e t) (i : ∀ σ H Q, t' σ H Q → t σ H Q) : PO X e t' := ⟨fun pins s σ H Q I q => h.run pins s σ H Q I (i σ H Q q)⟩
theorem od_none : OD X T W oNone none := PO.imp po_none fun σ H Q h => by
  obtain ⟨ρ, G, L, M, s, h⟩ := h
  exact h H L Nxt.refl s.mr
theorem od_some (h : PD X T W φ a) : OD X T W (oSome φ) (some a) := PO.imp (po_some h) fun σ H Q h => by
  obtain ⟨ρ, G, L, M, s, h⟩ := h
  refine ⟨ρ, G, L, M, s, (Post.bindO h).mono fun v H1 ⟨x, L1, M1, n1, m1, r1, h1⟩ => ?_⟩
  unfold asI at h1
  split at h1
  · rename_i i e
    split at e
    · cases e
      exact ⟨i, r1.int, h1 H1 L1 Nxt.refl m1⟩
    · cases e
  · exact h1.elim
def eSl (φ : PFn) (lo hi : OFn) : PFn := fun ρ M => (stl (φ ρ M)).bind fun x M1 => (lo ρ M1).bind fun l M2 => (hi ρ M2).bind fun u M3 => ofO (dSl l u x M3) M3
theorem PostO.mono {K : PySem.W.Frag} {H : Hp} {G : Addr → Prop} {L : List Addr} {M : Mem} {r : Res (Option Int)} {Q Q' : Option Int → Hp → Prop} {E : XK} (h : PostO K T H G L M r Q E) (hq : ∀ v H', Q v H' → Q' v H') : PostO K T H G L M r Q' E := by
  cases r with
  | ok e M' => exact fun H' L' n m => hq _ _ (h H' L' n m)
  | err y M' => exact h
  | bad => exact h
theorem pd_slice {lo hi : Option Expr} {l u : OFn} {p2 : Pos} (ha : PD X T W φ a) (hl : OD X T W l lo) (hu : OD X T W u hi) : PD X T W (eSl φ l u) (.Subscript a (.Slice lo hi none p2) pos) :=
  PE.imp (pe_slice (sg_sl (T := T)) ha hl hu) fun σ H Q h => by
    obtain ⟨ρ, G, L, M, s, h⟩ := h
    refine ⟨ρ, G, L, M, s, (Post.bind h).mono fun v H1 ⟨x, L1, M1, n1, m1, r1, h1⟩ => ?_⟩
    refine ⟨ρ, G, L1, M1, s.ext n1 m1, (PostO.bind h1).mono fun l H2 ⟨L2, M2, n2, m2, h2⟩ => ?_⟩
    refine ⟨ρ, G, L2, M2, (s.ext n1 m1).ext n2 m2, (PostO.bind h2).mono fun u H3 ⟨L3, M3, n3, m3, h3⟩ => ?_⟩
    obtain ⟨r, e, q⟩ := ofO_post h3
    exact ⟨x, r, G, L3, M3, m3, (r1.ext n2).ext n3, e, q⟩

/-! ### calls of built-ins -/
def eCallB (g : List D → Mem → Option (Ev × Mem)) (α : AFn) : PFn := fun ρ M => (α ρ M).bind fun ds M1 => ofM (g ds M1)
theorem callB_go {g : List D → Mem → Option (Ev × Mem)} {σ : L2.St} {H : Hp} {Q : VK} (h : tE X T W (eCallB g α) σ H Q) :
    tCB (fun xs H Q => ∃ ds r M' G L M, MR X.K H G L M ∧ RDs X.K T H G L M xs ds ∧ g ds M = some (r, M') ∧ Post X.K T H G L M (.ok r M') Q never) (tA X T W α) σ H Q := by
  obtain ⟨ρ, G, L, M, s, h⟩ := h
  refine ⟨ρ, G, L, M, s, (PostA.bind h).mono fun vs H1 ⟨ds, L1, M1, n1, m1, r1, h1⟩ => ?_⟩
  obtain ⟨r, N, e, q⟩ := ofM_post h1
  exact ⟨ds, r, N, G, L1, M1, m1, r1, e, q⟩
theorem pd_callB {x : Str} {p : Pos} {id : String} {g : List D → Mem → Option (Ev × Mem)} (hc : CallG X T (.builtin id) g) (hg : Gl X x) (hm : X.mg x = none) (hv : bootBuiltins x = some (.builtin id)) (ha : AD X T W α (e :: es))
    (hs : (e :: es).any starB = false) (hn : x ≠ "__name__") (hd : (x == ("__debug__" : Str)) = false) : PD X T W (eCallB g α) (.Call (.Name x p) (e :: es) [] pos) :=
  PE.imp (pe_callB hc hg hm hv ha hn hd (star_cons (by rw [List.any_cons, Bool.or_eq_false_iff] at hs; exact hs.1)) (star_any (by rw [List.any_cons, Bool.or_eq_false_iff] at hs; exact hs.2))) fun σ H Q h => callB_go h
theorem pd_callTy {x : Str} {p : Pos} {id : String} {g : List D → Mem → Option (Ev × Mem)} (hc : CallG X T (.type id) g) (hg : Gl X x) (hm : X.mg x = none) (hv : bootBuiltins x = some (.type id)) (ha : AD X T W α (e :: es))
    (hs : (e :: es).any starB = false) (hn : x ≠ "__name__") (hd : (x == ("__debug__" : Str)) = false) : PD X T W (eCallB g α) (.Call (.Name x p) (e :: es) [] pos) :=
  PE.imp (pe_callTy hc hg hm hv ha hn hd (star_cons (by rw [List.any_cons, Bool.or_eq_false_iff] at hs; exact hs.1)) (star_any (by rw [List.any_cons, Bool.or_eq_false_iff] at hs; exact hs.2))) fun σ H Q h => callB_go h
end
end Cb

set_option Elab.async false
set_option linter.all false
set_option maxRecDepth 100000
/-! Cb, part E: methods and built-in functions. -/
namespace Cb
open PySem PySem.Spec PyProof.Rows L2

/-! ### a method of a built-in's value -/
def kindD (d : D) (M : Mem) : Option String := match pv d M with
  | some (.list _) => some "list"
  | some (.dict _) => some "dict"
  | some (.str _) => some "str"
  | _ => none
def MtG (X : Cx) (T : Tb) (id : String) (g : D → List D → Mem → Option (Ev × Mem)) : Prop :=
  MtR X id fun x xs H Q => ∃ d ds r M' G L M, MR X.K H G L M ∧ RD X.K T H G L M x d ∧ RDs X.K T H G L M xs ds ∧ g d ds M = some (r, M') ∧ Post X.K T H G L M (.ok r M') Q never
def HasM (X : Cx) (T : Tb) (ty : String) (name : Str) (g : D → List D → Mem → Option (Ev × Mem)) : Prop :=
  ∃ id, PlainAttrs ty ∧ Slot ty name id ∧ typeOf (.builtin id) = pure (.type "method_descriptor") ∧ MtG X T id g
def baseB : Expr → Bool
  | .Call (.Name _ _) [] [] _ => false
  | _ => true
theorem base_ok {o : Expr} {name : Str} {env : PySem.Env} {t : Sem Value} (h : baseB o = true) : attributeBase o name env t = t := by
  unfold attributeBase
  cases o with
  | Call f args kws pos =>
    cases f with
    | Name id p =>
      cases args with
      | nil =>
        cases kws with
        | nil => cases h
        | cons _ _ => rfl
      | cons _ _ => rfl
    | _ => rfl
  | _ => rfl
section
variable {X : Cx} {T : Tb} {W : WX} {a b e o : Expr} {es : List Expr} {φ ψ : PFn} {α : AFn} {pos apos : Pos} {name : Str}
theorem kind_ok {pins : List (Addr × Obj)} {s : Shared} {σ : L2.St} {H : Hp} {G : Addr → Prop} {L : List Addr} {M : Mem} {v : V} {u : Value} {d : D} {ty : String} (I : Inv X pins σ H s) (m : MR X.K H G L M) (r : RD X.K T H G L M v d) (ru : RelV v u) (h : kindD d M = some ty) :
    s.TypeIs u ty ∧ ∀ a, u = .ref a → ∃ ob, s.heap.get? a = some ob ∧ ob.dict = none := by
  unfold kindD at h
  split at h
  · rename_i xs e
    cases h
    obtain ⟨p, vs, rfl, h1, _⟩ := pv_list m r e
    exact tyV_is I ru (.inl ⟨rfl, _, .inl (.inl h1)⟩)
  · rename_i kvs e
    cases h
    obtain ⟨p, vs, rfl, h1, _⟩ := pv_dict m r e
    cases ru
    have z := isD_at I (.inl ⟨_, h1⟩)
    exact ⟨z.1, z.2.1⟩
  · rename_i x e
    cases h
    have z := (pv_str r e).1
    subst z
    exact tyV_is I ru rfl
  · cases h
/-- o.name(..): gm the method's meaning by the kind of o -/
def eMth (gm : String → Option (D → List D → Mem → Option (Ev × Mem))) (φ : PFn) (α : AFn) : PFn := fun ρ M => (stl (φ ρ M)).bind fun x M1 => match kindD x M1 with
  | some ty => match gm ty with
    | some g => (α ρ M1).bind fun ds M2 => ofM (g x ds M2)
    | none => .bad
  | none => .bad
theorem few_ok {es : List Expr} {env : PySem.Env} {pos : Pos} (hs : es.any starB = false) (hl : es.length < 30) :
    ((backTo pos (starEach es env)).all (fun x => !x.1) && (backToKw pos (keywordEach [] env)).all (fun x => x.1.isSome) && decide (es.length + ([] : List Keyword).length + (if ([] : List Keyword).isEmpty then 0 else 1) < 30)) = true := by
  have h1 : (backTo pos (starEach es env)).all (fun x => !x.1) = true := by
    have := star_any (env := env) (pos := pos) hs
    rw [List.any_eq_false] at this
    rw [List.all_eq_true]
    intro x hx
    have := this x hx
    simpa using this
  rw [h1]
  simp [keywordEach, backToKw, hl]
theorem pd_mth {gm : String → Option (D → List D → Mem → Option (Ev × Mem))} (hm : ∀ ty g, gm ty = some g → HasM X T ty name g) (ho : PD X T W φ o) (ha : AD X T W α (e :: es)) (hb : baseB o = true) (hs : (e :: es).any starB = false) (hl : (e :: es).length < 30) (hline : (apos.endLine == pos.line) = true) :
    PD X T W (eMth gm φ α) (.Call (.Attribute o name apos) (e :: es) [] pos) := by
  refine ⟨fun pins s σ H Q I h => ?_⟩
  obtain ⟨ρ, G, L, M, sr, h⟩ := h
  refine wpAny_Call_method_late (base_ok hb) (few_ok hs hl) hline rfl (thn (ho.run pins s σ H _ I ⟨ρ, G, L, M, sr, Post.bind h⟩) fun v s1 ⟨x, H1, I1, rx, d, L1, M1, n1, m1, r1, h1⟩ => ?_)
  split at h1
  · rename_i ty hk
    split at h1
    · rename_i g hg
      obtain ⟨id, pa, slot, hty, mt⟩ := hm ty g hg
      obtain ⟨t1, t2⟩ := kind_ok I1 m1 r1 rx hk
      refine ⟨ty, id, pa, slot, hty, t1, t2, ?_⟩
      have hA := ha.run pos pins s1 σ H1 _ I1 ⟨ρ, G, L1, M1, sr.ext n1 m1, PostA.bind h1⟩
      have fin : wpAny (model X.prog X.w) X.A (spliced (backTo pos (starEach (e :: es) X.env))) (fun us s2 => wpAny (model X.prog X.w) X.A (call (.builtin id) (v :: us)) (EP X pins σ Q) X.xe s2) X.xe s1 := by
        refine thn hA fun us s2 ⟨vs, H2, I2, r2, ds, L2, M2, n2, m2, rds, h2⟩ => ?_
        obtain ⟨r, N, eg, q⟩ := ofM_post h2
        exact mt pins s2 σ H2 x vs v us Q I2 rx r2 ⟨d, ds, r, N, G, L2, M2, m2, r1.ext n2, rds, eg, q⟩
      rw [List.any_cons, Bool.or_eq_false_iff] at hs
      rw [star_cons hs.1] at fin ⊢
      exact Calls.callWith_builtin (show (false || (backTo pos (starEach es X.env)).any (·.1)) = false by rw [star_any hs.2]; rfl) (Calls.evalArgs_plain fin)
    · exact h1.elim
  · exact h1.elim
theorem pd_mth0 {gm : String → Option (D → List D → Mem → Option (Ev × Mem))} (hm : ∀ ty g, gm ty = some g → HasM X T ty name g) (ho : PD X T W φ o) (hb : baseB o = true) (hline : (apos.endLine == pos.line) = true) :
    PD X T W (eMth gm φ aNil) (.Call (.Attribute o name apos) [] [] pos) := by
  refine ⟨fun pins s σ H Q I h => ?_⟩
  obtain ⟨ρ, G, L, M, sr, h⟩ := h
  refine wpAny_Call_method0_late (base_ok hb) hline (thn (ho.run pins s σ H _ I ⟨ρ, G, L, M, sr, Post.bind h⟩) fun v s1 ⟨x, H1, I1, rx, d, L1, M1, n1, m1, r1, h1⟩ => ?_)
  split at h1
  · rename_i ty hk
    split at h1
    · rename_i g hg
      obtain ⟨id, pa, slot, hty, mt⟩ := hm ty g hg
      obtain ⟨t1, t2⟩ := kind_ok I1 m1 r1 rx hk
      obtain ⟨r, N, eg, q⟩ := ofM_post h1
      exact ⟨ty, id, pa, slot, hty, t1, t2, Calls.callWith_builtin rfl (PySem.evalArgs_none (mt pins s1 σ H1 x [] v [] Q I1 rx .nil ⟨d, [], r, N, G, L1, M1, m1, r1, .nil, eg, q⟩))⟩
    · exact h1.elim
  · exact h1.elim

/-! ### the methods -/
theorem lst_at {K : PySem.W.Frag} {H : Hp} {G : Addr → Prop} {L : List Addr} {M : Mem} {v : V} {n : Nat} {xs : List P} (m : MR K H G L M) (r : RD K T H G L M v (.obj n)) (h : M[n]? = some (.lst xs)) : ∃ a vs, v = .ref a ∧ L[n]? = some a ∧ Lv L M a ∧ H a = some (.lst vs) ∧ RpAll K H (Fbd L M G) vs xs := by
  cases r with
  | @obj n a e =>
    obtain ⟨ho, e3, c⟩ := m.at_ n a _ e h rfl
    cases c with
    | lst r => exact ⟨a, _, rfl, e, ⟨n, _, e, h, rfl⟩, e3, r⟩
theorem dct_at {K : PySem.W.Frag} {H : Hp} {G : Addr → Prop} {L : List Addr} {M : Mem} {v : V} {n : Nat} {xs : List (P × P)} (m : MR K H G L M) (r : RD K T H G L M v (.obj n)) (h : M[n]? = some (.dct xs)) : ∃ a vs, v = .ref a ∧ L[n]? = some a ∧ Lv L M a ∧ H a = some (.dK vs) ∧ RpKV K H (Fbd L M G) vs xs := by
  cases r with
  | @obj n a e =>
    obtain ⟨ho, e3, c⟩ := m.at_ n a _ e h rfl
    cases c with
    | dct r => exact ⟨a, _, rfl, e, ⟨n, _, e, h, rfl⟩, e3, r⟩
/-- the object n holds o from now on -/
theorem wrote {K : PySem.W.Frag} {H : Hp} {G : Addr → Prop} {L : List Addr} {M : Mem} {a : Addr} {n : Nat} {o : MObj} {ho : HO} {d : D} {w : V} {Q : VK} (m : MR K H G L M) (h1 : L[n]? = some a) (hlv : Lv L M a) (c : MC K H (Fbd L M G) ho o)
    (q : Post K T H G L M (.ok (.d d) (M.set n o)) Q never) (rw' : RD K T (upd H a ho) G L (M.set n o) w d) : Q w (upd H a ho) :=
  q w _ L (Nxt.write h1 hlv) (m.write h1 hlv c) rw'
def mAppend : D → List D → Mem → Option (Ev × Mem) := fun d ds M => match d, ds with
  | .obj n, [x] => match pur x M with
    | some (y, M1) => match M1[n]? with
      | some (.lst xs) => if xs.length < sizeLine then some (.d (.p .none), M1.set n (.lst (xs ++ [y]))) else none
      | _ => none
    | none => none
  | _, _ => none
theorem mg_append : MtG X T "list.append" mAppend := by
  intro pins s σ H x xs v us Q I rx rs h
  obtain ⟨d, ds, r, M', G, L, M, m, rd, rds, e, q⟩ := h
  unfold mAppend at e
  split at e
  · rename_i n z
    split at e
    · rename_i y M1 e1
      split at e
      · rename_i ys e2
        split at e
        · rename_i hz
          cases e
          cases rds with
          | @cons v1 _ _ _ r1 r2 =>
          cases r2
          obtain ⟨n1, m1, q1⟩ := pur_ok m r1 e1
          obtain ⟨a, vs, rfl, h1, h2, h3, h4⟩ := lst_at m1 (rd.ext n1) e2
          refine mt_append pins s σ H _ _ v us Q I rx rs ⟨a, vs, v1, rfl, rfl, h3, by rw [h4.length]; exact hz, ?_⟩
          exact wrote m1 h1 h2 (.lst (h4.append (.cons q1 .nil))) (q.start n1) (.p .non)
        · cases e
      · cases e
    · cases e
  · cases e
/-- the items of a list or a tuple -/
def seqP (d : D) (M : Mem) : Option (List P) := match pv d M with
  | some (.list xs) => some xs
  | some (.tuple xs) => some xs
  | _ => none
theorem seqP_ok {K : PySem.W.Frag} {H : Hp} {G : Addr → Prop} {L : List Addr} {M : Mem} {v : V} {d : D} {xs : List P} (m : MR K H G L M) (r : RD K T H G L M v d) (h : seqP d M = some xs) : ∃ a vs, v = .ref a ∧ (SqL K H a vs ∨ SqT K H a vs) ∧ RpAll K H (Fbd L M G) vs xs := by
  unfold seqP at h
  split at h
  · rename_i ys e
    cases h
    obtain ⟨a, vs, e1, h1, h2⟩ := pv_list m r e
    exact ⟨a, vs, e1, .inl (.inl (.inl h1)), h2⟩
  · rename_i ys e
    cases h
    obtain ⟨a, vs, e1, h1, h2, _⟩ := pv_tuple r e
    exact ⟨a, vs, e1, .inr h1, h2⟩
  · cases h
def listP (d : D) (M : Mem) : Option (List P) := match pv d M with
  | some (.list xs) => some xs
  | _ => none
def mExtend : D → List D → Mem → Option (Ev × Mem) := fun d ds M => match d, ds with
  | .obj n, [x] => match listP x M with
    | some ys => match M[n]? with
      | some (.lst xs) => if xs.length + ys.length ≤ sizeLine then some (.d (.p .none), M.set n (.lst (xs ++ ys))) else none
      | _ => none
    | none => none
  | _, _ => none
theorem mg_extend : MtG X T "list.extend" mExtend := by
  intro pins s σ H x xs v us Q I rx rs h
  obtain ⟨d, ds, r, M', G, L, M, m, rd, rds, e, q⟩ := h
  unfold mExtend at e
  split at e
  · rename_i n z
    split at e
    · rename_i ys e1
      split at e
      · rename_i xs0 e2
        split at e
        · rename_i hz
          cases e
          cases rds with
          | @cons v1 _ _ _ r1 r2 =>
          cases r2
          obtain ⟨a, vs, rfl, h1, h2, h3, h4⟩ := lst_at m rd e2
          unfold listP at e1
          split at e1
          · rename_i ys' e3
            cases e1
            obtain ⟨b, us', rfl, h5, h6⟩ := pv_list m r1 e3
            refine mt_extend pins s σ H _ _ v us Q I rx rs ⟨a, b, vs, us', rfl, rfl, h3, h5, by rw [h4.length, h6.length]; exact hz, ?_⟩
            exact wrote m h1 h2 (.lst (h4.append h6)) q (.p .non)
          · cases e1
        · cases e
      · cases e
    · cases e
  · cases e
def mPop : D → List D → Mem → Option (Ev × Mem) := fun d ds M => match d with
  | .obj n => match M[n]? with
    | some (.lst xs) => match ds with
      | [] => match xs[xs.length - 1]? with
        | some y => some (.d (.p y), M.set n (.lst xs.dropLast))
        | none => none
      | [.p (.int i)] => if 0 ≤ i ∧ i < 2 ^ 63 then (match xs[i.toNat]? with
        | some y => some (.d (.p y), M.set n (.lst (xs.eraseIdx i.toNat)))
        | none => none) else none
      | _ => none
    | _ => none
  | _ => none
theorem RpAll.dropLast {K : PySem.W.Frag} {H : Hp} {Fb : Addr → Prop} {vs : List V} {ds : List P} (r : RpAll K H Fb vs ds) : RpAll K H Fb vs.dropLast ds.dropLast := by
  rw [List.dropLast_eq_take, List.dropLast_eq_take, r.length]; exact r.take _
theorem mg_pop : MtG X T "list.pop" mPop := by
  intro pins s σ H x xs v us Q I rx rs h
  obtain ⟨d, ds, r, M', G, L, M, m, rd, rds, e, q⟩ := h
  unfold mPop at e
  split at e
  · rename_i n
    split at e
    · rename_i ys e2
      obtain ⟨a, vs, rfl, h1, h2, h3, h4⟩ := lst_at m rd e2
      split at e
      · split at e
        · rename_i y e3
          cases e
          cases rds
          obtain ⟨w, hw, rw'⟩ := h4.get e3
          rw [← h4.length] at hw
          refine mt_pop pins s σ H _ _ v us Q I rx rs ⟨a, vs, w, rfl, rfl, h3, hw, ?_⟩
          exact wrote m h1 h2 (.lst h4.dropLast) q (.p (rw'.ext (Nxt.write h1 h2).keeps))
        · cases e
      · rename_i i
        split at e
        · rename_i hi
          split at e
          · rename_i y e3
            cases e
            cases rds with
            | cons r1 r2 =>
            cases r2
            obtain ⟨w, hw, rw'⟩ := h4.get e3
            have hlt := (List.getElem?_eq_some_iff.mp hw).1
            refine mt_popAt pins s σ H _ _ v us Q I rx rs ⟨a, vs, i, i.toNat, w, rfl, by rw [r1.int], h3, by omega, hi.2, seqIndex_of hi.1 (by omega), hw, ?_⟩
            exact wrote m h1 h2 (.lst (h4.eraseIdx _)) q (.p (rw'.ext (Nxt.write h1 h2).keeps))
          · cases e
        · cases e
      · cases e
    · cases e
  · cases e
def mInsert : D → List D → Mem → Option (Ev × Mem) := fun d ds M => match d, ds with
  | .obj n, [.p (.int i), x] => match pur x M with
    | some (y, M1) => match M1[n]? with
      | some (.lst xs) => if xs.length < sizeLine ∧ 0 ≤ i ∧ i < 2 ^ 63 then some (.d (.p .none), M1.set n (.lst (xs.take i.toNat ++ [y] ++ xs.drop i.toNat))) else none
      | _ => none
    | none => none
  | _, _ => none
theorem mg_insert : MtG X T "list.insert" mInsert := by
  intro pins s σ H x xs v us Q I rx rs h
  obtain ⟨d, ds, r, M', G, L, M, m, rd, rds, e, q⟩ := h
  unfold mInsert at e
  split at e
  · rename_i n i z
    split at e
    · rename_i y M1 e1
      split at e
      · rename_i ys e2
        split at e
        · rename_i hz
          cases e
          cases rds with
          | cons r0 r1 =>
          cases r1 with
          | @cons v1 _ _ _ r1 r2 =>
          cases r2
          obtain ⟨n1, m1, q1⟩ := pur_ok m r1 e1
          obtain ⟨a, vs, rfl, h1, h2, h3, h4⟩ := lst_at m1 (rd.ext n1) e2
          refine mt_insert pins s σ H _ _ v us Q I rx rs ⟨a, vs, i, v1, rfl, by rw [r0.int], h3, by rw [h4.length]; exact hz.1, hz.2.1, hz.2.2, ?_⟩
          exact wrote m1 h1 h2 (.lst (((h4.take _).append (.cons q1 .nil)).append (h4.drop _))) (q.start n1) (.p .non)
        · cases e
      · cases e
    · cases e
  · cases e
/-- d.get(k), d.get(k, x) -/
def mGet : D → List D → Mem → Option (Ev × Mem) := fun d ds M => match pv d M with
  | some (.dict kvs) => match ds with
    | [.p k] => match keyOf k with
      | some _ => some (.d (.p ((dgetP kvs k).getD .none)), M)
      | none => none
    | [.p k, .p x] => match keyOf k with
      | some _ => some (.d (.p ((dgetP kvs k).getD x)), M)
      | none => none
    | _ => none
  | _ => none
theorem RpKV.get_none {K : PySem.W.Frag} {H : Hp} {Fb : Addr → Prop} : ∀ {kvs : List (Key × V)} {ds : List (P × P)} {q : Key}, RpKV K H Fb kvs ds → dgetP ds (keyP q) = none → valV kvs q = none
  | _, _, _, .nil, _ => rfl
  | _, _, q, .cons (k := k) (v := v) (vs := vs) (d := d') (ds := ds) r t, h => by
    unfold dgetP at h
    rw [List.find?_cons, keqP_P] at h
    by_cases e : k = q
    · rw [decide_eq_true e] at h; simp at h
    · rw [decide_eq_false e] at h
      rw [valV_neg e]; exact t.get_none h
theorem mg_get (hu : X.A.units + 1 < cLine) : MtG X T "dict.get" mGet := by
  intro pins s σ H x xs v us Q I rx rs h
  obtain ⟨d, ds, r, M', G, L, M, m, rd, rds, e, q⟩ := h
  unfold mGet at e
  split at e
  · rename_i kvs e1
    obtain ⟨a, vs, rfl, h1, h2⟩ := pv_dict m rd e1
    cases rx
    split at e
    · rename_i k
      split at e
      · rename_i qk hk
        cases e
        cases rds with
        | @cons v1 _ _ _ r1 r2 =>
        cases r2
        have ek := keyOf_P hk
        have ev : v1 = kV qk := by cases r1 with | p r1 => exact kV_of r1 hk
        subst ev
        cases rs with
        | cons s1 s2 =>
        cases s2
        refine d_get1 hu I (.inl ⟨vs, qk, h1, rfl, rfl⟩) s1 fun w' s' I' rw' => ⟨_, H, I', rw', ?_⟩
        cases eo : dgetP kvs k with
        | none =>
          rw [eo] at q; rw [ek] at eo
          rw [h2.get_none eo]
          exact q _ H L Nxt.refl m (.p .non)
        | some z =>
          rw [eo] at q; rw [ek] at eo
          obtain ⟨w, hw, rw2⟩ := h2.get eo
          rw [hw]
          exact q _ H L Nxt.refl m (.p rw2)
      · cases e
    · rename_i k z0
      split at e
      · rename_i qk hk
        cases e
        cases rds with
        | @cons v1 _ _ _ r1 r2 =>
        cases r2 with
        | @cons v2 _ _ _ r2 r3 =>
        cases r3
        have ek := keyOf_P hk
        have ev : v1 = kV qk := by cases r1 with | p r1 => exact kV_of r1 hk
        subst ev
        cases rs with
        | cons s1 s2 =>
        cases s2 with
        | cons s2 s3 =>
        cases s3
        refine d_get2 hu I (.inl ⟨vs, qk, h1, rfl, rfl⟩) s1 s2 fun w' s' I' rw' => ⟨_, H, I', rw', ?_⟩
        cases eo : dgetP kvs k with
        | none =>
          rw [eo] at q; rw [ek] at eo
          rw [h2.get_none eo]
          exact q _ H L Nxt.refl m r2
        | some z =>
          rw [eo] at q; rw [ek] at eo
          obtain ⟨w, hw, rw2⟩ := h2.get eo
          rw [hw]
          exact q _ H L Nxt.refl m (.p rw2)
      · cases e
    · cases e
  · cases e
end
end Cb

set_option Elab.async false
set_option linter.all false
set_option maxRecDepth 100000
/-! Cb, part F: built-in functions by values. -/
namespace Cb
open PySem PySem.Spec PyProof.Rows L2

def ret1 (g : P → Option P) : List D → Mem → Option (Ev × Mem) := fun ds M => match ds with
  | [d] => match pv d M with
    | some x => (g x).map fun z => (.d (.p z), M)
    | none => none
  | _ => none
/-- the length -/
def lenP : P → Option Int
  | .list xs => some xs.length
  | .tuple xs => some xs.length
  | .str x => some x.length
  | _ => none
def bLen : List D → Mem → Option (Ev × Mem) := fun ds M => match ds with
  | [d] => match pv d M with
    | some (.list xs) => some (.d (.p (.int xs.length)), M)
    | some (.tuple xs) => some (.d (.p (.int xs.length)), M)
    | some (.str x) => some (.d (.p (.int x.length)), M)
    | some (.dict kvs) => some (.d (.p (.int kvs.length)), M)
    | _ => none
  | _ => none
def bList : List D → Mem → Option (Ev × Mem) := fun ds M => match ds with
  | [.frz xs] => some (.new (.lst xs), M)
  | [d] => match seqP d M with
    | some xs => some (.new (.lst xs), M)
    | none => none
  | _ => none
def bTuple : List D → Mem → Option (Ev × Mem) := fun ds M => match ds with
  | [d] => match seqP d M with
    | some xs => some (.d (.p (.tuple xs)), M)
    | none => none
  | _ => none
def bMax : List D → Mem → Option (Ev × Mem) := fun ds M => match ds with
  | [.p (.int i), .p (.int j)] => some (.d (.p (.int (if j > i then j else i))), M)
  | _ => none
def bMin : List D → Mem → Option (Ev × Mem) := fun ds M => match ds with
  | [.p (.int i), .p (.int j)] => some (.d (.p (.int (if j < i then j else i))), M)
  | _ => none
def boolsP : List P → Option (List Bool)
  | [] => some []
  | .bool b :: r => (boolsP r).map (b :: ·)
  | _ :: _ => none
def bAll : List D → Mem → Option (Ev × Mem) := fun ds M => match ds with
  | [d] => match listP d M with
    | some xs => (boolsP xs).map fun bs => (.d (.p (.bool (bs.all id))), M)
    | none => none
  | _ => none
def bAny : List D → Mem → Option (Ev × Mem) := fun ds M => match ds with
  | [d] => match listP d M with
    | some xs => (boolsP xs).map fun bs => (.d (.p (.bool (bs.any id))), M)
    | none => none
  | _ => none
def tup1 : P → Bool
  | .tuple (_ :: _) => true
  | _ => false
def flat1 : P → Bool
  | .tuple _ => false
  | .none => false
  | _ => true
/-- what may be sorted -/
def sortOk (xs : List P) : Bool := xs.all okP && (xs.all fun x => xs.all fun y => PySem.W.alike x y) && (xs.all tup1 || xs.all flat1)
def sortP (xs : List P) : List P := xs.mergeSort (PySem.W.dataLe false id)
def bSorted : List D → Mem → Option (Ev × Mem) := fun ds M => match ds with
  | [d] => match listP d M with
    | some xs => if sortOk xs = true then some (.new (.lst (sortP xs)), M) else none
    | none => none
  | _ => none
def reprOk (d : P) : Bool := okP d && d.showable && decide (d.shown.length ≤ sizeLine)
def bRepr : List D → Mem → Option (Ev × Mem) := fun ds M => match ds with
  | [d] => match pv d M with
    | some x => if reprOk x = true then some (.d (.p (.str x.shown)), M) else none
    | none => none
  | _ => none

section
variable {X : Cx} {T : Tb} {W : WX}
theorem line_lt : (sizeLine : Nat) < 2 ^ 63 := by rw [sizeLine_eq]; decide
theorem cg_len : CallG X T (.builtin "len") bLen := by
  intro pins s σ H xs us Q I r h
  obtain ⟨ds, ev, M', G, L, M, m, rds, e, q⟩ := h
  unfold bLen at e
  split at e
  · rename_i d
    cases rds with
    | @cons v _ _ _ r1 r2 =>
    cases r2
    split at e
    · rename_i xs e1
      cases e
      obtain ⟨p, vs, rfl, h1, h2⟩ := pv_list m r1 e1
      exact call_len pins s σ H _ us Q I r ⟨.ref p, xs.length, rfl, .inl ⟨vs, .inl (.inl h1), h2.length.symm⟩, q _ H L Nxt.refl m (.p (.int _))⟩
    · rename_i xs e1
      cases e
      obtain ⟨p, vs, rfl, h1, h2, _⟩ := pv_tuple r1 e1
      exact call_len pins s σ H _ us Q I r ⟨.ref p, xs.length, rfl, .inr ⟨vs, h1, h2.length.symm⟩, q _ H L Nxt.refl m (.p (.int _))⟩
    · rename_i x e1
      cases e
      obtain ⟨rfl, hz⟩ := pv_str r1 e1
      exact call_len pins s σ H _ us Q I r ⟨.str x, x.length, rfl, ⟨hz, rfl⟩, q _ H L Nxt.refl m (.p (.int _))⟩
    · rename_i kvs e1
      cases e
      obtain ⟨p, vs, rfl, h1, h2⟩ := pv_dict m r1 e1
      obtain ⟨u, rfl, ru⟩ := vals1 r
      cases ru
      refine d_len I h1 fun t s' I' => ⟨.int vs.length, H, I', ⟨t, rfl⟩, ?_⟩
      rw [h2.length]
      exact q _ H L Nxt.refl m (.p (.int _))
    · cases e
  · cases e
theorem cg_list : CallG X T (.type "list") bList := by
  intro pins s σ H xs us Q I r h
  obtain ⟨ds, ev, M', G, L, M, m, rds, e, q⟩ := h
  unfold bList at e
  split at e
  · cases e
    cases rds with
    | cons r1 r2 =>
    cases r2
    cases r1 with
    | @frz p vs xs h1 h2 =>
    exact call_list_of pins s σ H _ us Q I r ⟨p, vs, rfl, .inl h1.sq, fun l hl => q l _ H L hl Nxt.refl m (.lst h2)⟩
  · rename_i d _
    cases rds with
    | cons r1 r2 =>
    cases r2
    split at e
    · rename_i xs e1
      cases e
      obtain ⟨p, vs, rfl, h1, h2⟩ := seqP_ok m r1 e1
      exact call_list_of pins s σ H _ us Q I r ⟨p, vs, rfl, h1, fun l hl => q l _ H L hl Nxt.refl m (.lst h2)⟩
    · cases e
  · cases e
theorem cg_tuple : CallG X T (.type "tuple") bTuple := by
  intro pins s σ H xs us Q I r h
  obtain ⟨ds, ev, M', G, L, M, m, rds, e, q⟩ := h
  unfold bTuple at e
  split at e
  · rename_i d
    cases rds with
    | cons r1 r2 =>
    cases r2
    split at e
    · rename_i xs e1
      cases e
      unfold seqP at e1
      split at e1
      · rename_i ys e2
        cases e1
        obtain ⟨p, vs, rfl, h1, h2⟩ := pv_list m r1 e2
        exact call_tuple_of pins s σ H _ us Q I r ⟨p, vs, rfl, .inl ⟨.inl (.inl h1), fun l hl => q _ _ L (Nxt.fresh hl) (m.fresh hl) (.p (.tup (.inl upd_same) (m.free hl) (RpAll.ext (Nxt.fresh hl).keeps _ _ h2)))⟩⟩
      · rename_i ys e2
        cases e1
        obtain ⟨p, vs, rfl, h1, h2, h3⟩ := pv_tuple r1 e2
        exact call_tuple_of pins s σ H _ us Q I r ⟨p, vs, rfl, .inr ⟨h1, q _ H L Nxt.refl m (.p h3)⟩⟩
      · cases e1
    · cases e
  · cases e
theorem cg_max (c : XOk X) : CallG X T (.builtin "max") bMax := by
  intro pins s σ H xs us Q I r h
  obtain ⟨ds, ev, M', G, L, M, m, rds, e, q⟩ := h
  unfold bMax at e
  split at e
  · cases e
    cases rds with
    | cons r1 r2 =>
    cases r2 with
    | cons r2 r3 =>
    cases r3
    exact call_max2 c.calm pins s σ H _ us Q I r ⟨_, _, by rw [r1.int, r2.int], q _ H L Nxt.refl m (.p (.int _))⟩
  · cases e
theorem cg_min (c : XOk X) : CallG X T (.builtin "min") bMin := by
  intro pins s σ H xs us Q I r h
  obtain ⟨ds, ev, M', G, L, M, m, rds, e, q⟩ := h
  unfold bMin at e
  split at e
  · cases e
    cases rds with
    | cons r1 r2 =>
    cases r2 with
    | cons r2 r3 =>
    cases r3
    exact call_min2 c.calm pins s σ H _ us Q I r ⟨_, _, by rw [r1.int, r2.int], q _ H L Nxt.refl m (.p (.int _))⟩
  · cases e
theorem bools_ok {K : PySem.W.Frag} {H : Hp} {Fb : Addr → Prop} : ∀ {vs : List V} {xs : List P} {bs : List Bool}, RpAll K H Fb vs xs → boolsP xs = some bs → vs = bs.map V.bl
  | _, _, _, .nil, h => by cases h; rfl
  | _, _, bs, .cons (v := v) (d := d) (ds := ds) r t, h => by
    cases r with
    | bl b =>
      unfold boolsP at h
      cases e : boolsP ds with
      | none => rw [e] at h; cases h
      | some bs' => rw [e] at h; cases h; rw [bools_ok t e]; rfl
    | non => cases h
    | int _ => cases h
    | str _ _ => cases h
    | lst _ _ _ => cases h
    | tup _ _ _ => cases h
    | tupK _ _ _ _ _ _ => cases h
    | dct _ _ _ => cases h
theorem cg_all (c : XOk X) : CallG X T (.builtin "all") bAll := by
  intro pins s σ H xs us Q I r h
  obtain ⟨ds, ev, M', G, L, M, m, rds, e, q⟩ := h
  unfold bAll at e
  split at e
  · cases rds with
    | cons r1 r2 =>
    cases r2
    split at e
    · rename_i xs e1
      cases eb : boolsP xs with
      | none => rw [eb] at e; cases e
      | some bs =>
        rw [eb] at e; cases e
        unfold listP at e1
        split at e1
        · rename_i ys e2
          cases e1
          obtain ⟨p, vs, rfl, h1, h2⟩ := pv_list m r1 e2
          exact cr_all c.calm pins s σ H _ us Q I r ⟨p, bs, rfl, by rw [← bools_ok h2 eb]; exact .inl (.inl h1), q _ H L Nxt.refl m (.p (.bl _))⟩
        · cases e1
    · cases e
  · cases e
theorem cg_any (c : XOk X) : CallG X T (.builtin "any") bAny := by
  intro pins s σ H xs us Q I r h
  obtain ⟨ds, ev, M', G, L, M, m, rds, e, q⟩ := h
  unfold bAny at e
  split at e
  · cases rds with
    | cons r1 r2 =>
    cases r2
    split at e
    · rename_i xs e1
      cases eb : boolsP xs with
      | none => rw [eb] at e; cases e
      | some bs =>
        rw [eb] at e; cases e
        unfold listP at e1
        split at e1
        · rename_i ys e2
          cases e1
          obtain ⟨p, vs, rfl, h1, h2⟩ := pv_list m r1 e2
          exact cr_any c.calm pins s σ H _ us Q I r ⟨p, bs, rfl, by rw [← bools_ok h2 eb]; exact .inl (.inl h1), q _ H L Nxt.refl m (.p (.bl _))⟩
        · cases e1
    · cases e
  · cases e
/-! sorted -/
open PySem.W (EachIs AllAlike Sortable)
theorem each_of {K : PySem.W.Frag} {H : Hp} {Fb : Addr → Prop} : ∀ {xs : List V} {us : List Value} {ds : List P}, Vals xs us → RpAll K H Fb xs ds → EachIs (fun u d => ∃ x, RelV x u ∧ Rp K H Fb x d) us ds
  | _, _, _, .nil, .nil => .nil
  | _, _, _, .cons r rs, .cons h t => .cons ⟨_, r, h⟩ (each_of rs t)
theorem each_back {K : PySem.W.Frag} {H : Hp} {Fb : Addr → Prop} : ∀ {us : List Value} {ds : List P}, EachIs (fun u d => ∃ x, RelV x u ∧ Rp K H Fb x d) us ds → ∃ xs, Vals xs us ∧ RpAll K H Fb xs ds
  | _, _, .nil => ⟨[], .nil, .nil⟩
  | _, _, .cons ⟨x, r, h⟩ t => by
    obtain ⟨xs, r2, h2⟩ := each_back t
    exact ⟨x :: xs, .cons r r2, .cons h h2⟩
theorem each_mono_mem {α β : Type} {R R' : α → β → Prop} : ∀ {as : List α} {bs : List β}, EachIs R as bs → (∀ a b, b ∈ bs → R a b → R' a b) → EachIs R' as bs
  | _, _, .nil, _ => .nil
  | _, _, .cons h t, f => .cons (f _ _ (List.mem_cons_self ..) h) (each_mono_mem t fun a b hb => f a b (List.mem_cons_of_mem _ hb))
theorem cg_sorted (c : XOk X) : CallG X T (.builtin "sorted") bSorted := by
  intro pins s σ H xs us Q I r h
  obtain ⟨ds, ev, M', G, L, M, m, rds, e, q⟩ := h
  unfold bSorted at e
  split at e
  · cases rds with
    | cons r1 r2 =>
    cases r2
    split at e
    · rename_i xs e1
      split at e
      · rename_i hok
        cases e
        unfold listP at e1
        split at e1
        · rename_i ys e2
          cases e1
          obtain ⟨p, vs, rfl, h1, h2⟩ := pv_list m r1 e2
          obtain ⟨u, rfl, ru⟩ := vals1 r
          cases ru
          obtain ⟨its, rv, pl, hz⟩ := I.list (.inl (.inl h1))
          unfold sortOk at hok
          simp only [Bool.and_eq_true, Bool.or_eq_true, List.all_eq_true] at hok
          obtain ⟨⟨k1, k2⟩, k3⟩ := hok
          have hz2 : xs.length ≤ sizeLine := by rw [← h2.length]; exact hz
          have ea := each_of rv h2
          have er : EachIs (fun u d => ∃ as, Reads s.heap u (id d) as) its xs := each_mono_mem ea fun a b hb ⟨x, rx, rp⟩ => Dp.reads I _ _ _ (Rp.dp _ _ (okP_plain (k1 b hb)) rp) rx
          have hal : AllAlike (xs.map id) := by rw [List.map_id]; exact fun d hd d' hd' => k2 d hd d' hd'
          have hso : Sortable (xs.map id) := by
            rw [List.map_id]
            rcases k3 with k3 | k3
            · refine .inl fun d hd => ?_
              have := k3 d hd
              cases d with
              | tuple ys => cases ys with
                | nil => cases this
                | cons y r => exact ⟨y, r, rfl⟩
              | _ => cases this
            · refine .inr fun d hd => ?_
              have := k3 d hd
              exact ⟨fun z => (by rw [z] at this; cases this), fun ys z => (by rw [z] at this; cases this)⟩
          refine PySem.W.sorted_data (enc := id) pl.isList ea er hal hso hz2 (fun b hb => ?_) fun out hl eo => ?_
          · have := okP_depth (k1 b hb)
            have := c.hu
            show X.A.units + 2 + b.depth < cLine
            omega
          · obtain ⟨zs, r3, h3⟩ := each_back eo
            obtain ⟨ep, he⟩ := PyProof.Rows.sortedAll_at s.heap its (List.toArray out)
            have hfr : H (s.heap.objs.size + 1) = none := I.hok.fresh (Nat.le_succ _)
            have hzl : zs.length ≤ sizeLine := by rw [r3.length, hl]; exact hz2
            exact ⟨.ref _, upd H (s.heap.objs.size + 1) (.lst zs), I.laid (t' := s.toks) (fun _ _ => PyProof.Rows.sortedAll_old) (Nat.le_succ _) ⟨hzl, out, ep, r3, he⟩, rfl, q _ _ H L hfr Nxt.refl m (.lst h3)⟩
        · cases e1
      · cases e
    · cases e
  · cases e
mutual
theorem noDict : ∀ d : P, d.plain = true → d.hasDict = false
  | .none, _ => by simp [PyData.hasDict]
  | .bool _, _ => by simp [PyData.hasDict]
  | .int _, _ => by simp [PyData.hasDict]
  | .str _, _ => by simp [PyData.hasDict]
  | .list xs, h => by simp only [PyData.hasDict]; exact noDictAll xs (by simpa [PyData.plain] using h)
  | .tuple xs, h => by simp only [PyData.hasDict]; exact noDictAll xs (by simpa [PyData.plain] using h)
  | .dict _, h => by simp [PyData.plain] at h
theorem noDictAll : ∀ xs : List P, PyData.plainAll xs = true → PyData.hasDictAll xs = false
  | [], _ => by simp [PyData.hasDictAll]
  | x :: xs, h => by
    rw [PyData.plainAll, Bool.and_eq_true] at h
    simp only [PyData.hasDictAll, noDict x h.1, noDictAll xs h.2, Bool.or_self]
end
theorem cg_repr (c : XOk X) : CallG X T (.builtin "repr") bRepr := by
  intro pins s σ H xs us Q I r h
  obtain ⟨ds, ev, M', G, L, M, m, rds, e, q⟩ := h
  unfold bRepr at e
  split at e
  · cases rds with
    | @cons v _ _ _ r1 r2 =>
    cases r2
    split at e
    · rename_i x e1
      split at e
      · rename_i hok
        cases e
        unfold reprOk at hok
        simp only [Bool.and_eq_true, decide_eq_true_eq] at hok
        obtain ⟨⟨k1, k2⟩, k3⟩ := hok
        obtain ⟨u, rfl, ru⟩ := vals1 r
        have dp := pv_dp m r1 e1 (okP_plain k1)
        obtain ⟨as, rd⟩ := Dp.reads I _ _ _ dp ru
        have fin : ∀ (h' : Heap) (t : Tok) (tk : Nat), (∀ b o, s.heap.get? b = some o → h'.get? b = some o) → EP X pins σ Q (.str x.shown t) { s with heap := h', toks := tk } := fun h' t tk hk =>
          ⟨.str x.shown, H, I.kept hk, ⟨t, rfl⟩, q _ H L Nxt.refl m (.p (.str _ k3))⟩
        have hun := c.hu
        have hdp := okP_depth k1
        have big : ∀ a, u = .ref a → wpAny (model X.prog X.w) X.A (call (.builtin "repr") [u]) (EP X pins σ Q) X.xe s := fun a ea => by
          subst ea
          exact repr_of_reads' (h₀ := s.heap) rd k2 (fun hd => by rw [noDict _ (okP_plain k1)] at hd; cases hd) c.hg (by omega) (fun _ _ h => h) (fun h' t tk hk => fin h' t tk hk) k3
        cases rd with
        | none => exact P.repr_of_none (by have := fin s.heap s.toks (s.toks + 1) (fun _ _ h => h); exact this)
        | bool b => exact P.repr_of_bool (by have := fin s.heap s.toks (s.toks + 1) (fun _ _ h => h); cases b <;> exact this)
        | int i t => exact P.repr_of_int (by simpa [PyData.showable] using k2) (fin s.heap s.toks (s.toks + 1) (fun _ _ h => h))
        | str y t => exact P.repr_of_str (fin s.heap s.toks (s.toks + 1) (fun _ _ h => h)) k3
        | list _ _ _ _ => exact big _ rfl
        | tuple _ _ _ _ => exact big _ rfl
        | dict _ _ _ _ _ => exact big _ rfl
      · cases e
    · cases e
  · cases e
end
end Cb

set_option Elab.async false
set_option linter.all false
set_option maxRecDepth 100000
/-! Cb, part G: statements. -/
namespace Cb
open PySem PySem.Spec PyProof.Rows L2

/-- only the slots U may differ -/
def Agr (U : List Nat) (σ σ' : L2.St) : Prop := σ'.length = σ.length ∧ ∀ i, i ∉ U → σ'[i]? = σ[i]?
theorem Agr.refl {U : List Nat} {σ : L2.St} : Agr U σ σ := ⟨rfl, fun _ _ => rfl⟩
theorem Agr.trans {U : List Nat} {σ τ υ : L2.St} (a : Agr U σ τ) (b : Agr U τ υ) : Agr U σ υ := ⟨b.1.trans a.1, fun i h => (b.2 i h).trans (a.2 i h)⟩
theorem Agr.set {U : List Nat} {σ : L2.St} {i : Nat} {x : Option V} (h : i ∈ U) : Agr U σ (σ.set i x) := ⟨by simp, fun j hj => List.getElem?_set_ne (fun e => hj (by rw [← e]; exact h))⟩

section
variable (K : PySem.W.Frag) (T : Tb)
def PostS (U : List Nat) (σ : L2.St) (H : Hp) (G : Addr → Prop) (L : List Addr) (M : Mem) (r : Res Out) (D : Ends) (W : WX) : Prop :=
  match r with
  | .ok (.nx ρ) M' => ∀ σ' H' L', Nxt H L M H' L' M' → SR K T σ' H' ρ G L' M' → Agr U σ σ' → D.nx σ' H'
  | .ok (.bk ρ) M' => ∀ σ' H' L', Nxt H L M H' L' M' → SR K T σ' H' ρ G L' M' → Agr U σ σ' → D.bk σ' H'
  | .ok (.ct ρ) M' => ∀ σ' H' L', Nxt H L M H' L' M' → SR K T σ' H' ρ G L' M' → Agr U σ σ' → D.ct σ' H'
  | .ok (.rt e) M' => Post K T H G L M (.ok e M') D.rt never
  | .err x M' => ∀ cls d σ' H' L', Nxt H L M H' L' M' → MR K H' G L' M' → XR K T H' (Fbd L' M' G) x cls d → Agr U σ σ' → W cls d σ' H'
  | .bad => False
end
section
variable {K : PySem.W.Frag} {T : Tb} {H H1 : Hp} {G : Addr → Prop} {L L1 : List Addr} {M M1 : Mem} {σ σ1 : L2.St} {U : List Nat} {Dn : Ends} {W : WX}
theorem PostS.start {r : Res Out} (x : Nxt H L M H1 L1 M1) (a : Agr U σ σ1) (h : PostS K T U σ H G L M r Dn W) : PostS K T U σ1 H1 G L1 M1 r Dn W := by
  cases r with
  | ok o M' =>
    cases o with
    | nx ρ => exact fun σ' H' L' n s g => h σ' H' L' (x.trans n) s (a.trans g)
    | bk ρ => exact fun σ' H' L' n s g => h σ' H' L' (x.trans n) s (a.trans g)
    | ct ρ => exact fun σ' H' L' n s g => h σ' H' L' (x.trans n) s (a.trans g)
    | rt e => exact Post.start x h
  | err y M' => exact fun cls d σ' H' L' n m q g => h cls d σ' H' L' (x.trans n) m q (a.trans g)
  | bad => exact h
/-- a value, then the rest of the statement -/
theorem Post.bindS {r : Res Ev} {k : D → Mem → Res Out} {E : Ends} (h : PostS K T U σ H G L M ((stl r).bind k) E W) :
    Post K T H G L M r (fun v H1 => ∃ x L1 M1, Nxt H L M H1 L1 M1 ∧ MR K H1 G L1 M1 ∧ RD K T H1 G L1 M1 v x ∧ PostS K T U σ H1 G L1 M1 (k x M1) E W) (fun cls d H' => W cls d σ H') := by
  cases r with
  | ok e M' =>
    cases e with
    | d y => exact fun v H' L' n m q => ⟨y, L', M', n, m, q, PostS.start n .refl h⟩
    | new o =>
      intro p ho H' L' hp n m c
      have n2 : Nxt H L M (upd H' p ho) L' M' := n.trans (Nxt.fresh hp)
      exact ⟨.p o.toP, L', M', n2, m.fresh hp, .p (c.rp m hp), PostS.start n2 .refl h⟩
  | err y M' => exact fun cls d H' L' n m q => h cls d σ H' L' n m q .refl
  | bad => exact h
theorem PostT.bindS {r : Res Bool} {k : Bool → Mem → Res Out} {E : Ends} (h : PostS K T U σ H G L M (r.bind k) E W) :
    PostT K T H G L M r (fun b H1 => ∃ L1 M1, Nxt H L M H1 L1 M1 ∧ MR K H1 G L1 M1 ∧ PostS K T U σ H1 G L1 M1 (k b M1) E W) (fun cls d H' => W cls d σ H') := by
  cases r with
  | ok e M' => exact fun H' L' n m => ⟨L', M', n, m, PostS.start n .refl h⟩
  | err y M' => exact fun cls d H' L' n m q => h cls d σ H' L' n m q .refl
  | bad => exact h
theorem PostA.bindS {r : Res (List D)} {k : List D → Mem → Res Out} {E : Ends} (h : PostS K T U σ H G L M (r.bind k) E W) :
    PostA K T H G L M r (fun vs H1 => ∃ ds L1 M1, Nxt H L M H1 L1 M1 ∧ MR K H1 G L1 M1 ∧ RDs K T H1 G L1 M1 vs ds ∧ PostS K T U σ H1 G L1 M1 (k ds M1) E W) (fun cls d H' => W cls d σ H') := by
  cases r with
  | ok e M' => exact fun vs H' L' n m q => ⟨e, L', M', n, m, q, PostS.start n .refl h⟩
  | err y M' => exact fun cls d H' L' n m q => h cls d σ H' L' n m q .refl
  | bad => exact h
/-- a statement, then the rest -/
def thenS (r : Res Out) (k : Env → Mem → Res Out) : Res Out := r.bind fun o M1 => match o with
  | .nx ρ => k ρ M1
  | .bk ρ => .ok (.bk ρ) M1
  | .ct ρ => .ok (.ct ρ) M1
  | .rt e => .ok (.rt e) M1
@[simp] theorem thenS_nx (ρ : Env) (M : Mem) (k : Env → Mem → Res Out) : thenS (.ok (.nx ρ) M) k = k ρ M := rfl
@[simp] theorem thenS_bk (ρ : Env) (M : Mem) (k : Env → Mem → Res Out) : thenS (.ok (.bk ρ) M) k = .ok (.bk ρ) M := rfl
@[simp] theorem thenS_ct (ρ : Env) (M : Mem) (k : Env → Mem → Res Out) : thenS (.ok (.ct ρ) M) k = .ok (.ct ρ) M := rfl
@[simp] theorem thenS_rt (e : Ev) (M : Mem) (k : Env → Mem → Res Out) : thenS (.ok (.rt e) M) k = .ok (.rt e) M := rfl
@[simp] theorem thenS_err (x : Xc) (M : Mem) (k : Env → Mem → Res Out) : thenS (.err x M) k = .err x M := rfl
@[simp] theorem thenS_bad (k : Env → Mem → Res Out) : thenS .bad k = .bad := rfl
theorem PostS.seq {r : Res Out} {k : Env → Mem → Res Out} {nx : L2.St → Hp → Prop} (h : PostS K T U σ H G L M (thenS r k) Dn W) (hn : ∀ ρ' σ' H' L' M', SR K T σ' H' ρ' G L' M' → PostS K T U σ' H' G L' M' (k ρ' M') Dn W → nx σ' H') :
    PostS K T U σ H G L M r { Dn with nx := nx } W := by
  cases r with
  | ok o M' =>
    cases o with
    | nx ρ => exact fun σ' H' L' n s g => hn ρ σ' H' L' M' s (PostS.start n g h)
    | bk ρ => exact h
    | ct ρ => exact h
    | rt e => exact h
  | err y M' => exact h
  | bad => exact h
end
section
variable (X : Cx) (T : Tb) (W : WX) (U : List Nat)
def tS (φ : SFn) : TS := fun D σ H => ∃ ρ G L M, SR X.K T σ H ρ G L M ∧ PostS X.K T U σ H G L M (φ ρ M) D W
def SD (φ : SFn) (st : Stmt) : Prop := PS X st (tS X T W U φ)
def BD (φ : SFn) (sts : List Stmt) : Prop := PSs X sts (tS X T W U φ)
end
def sNx : SFn := fun ρ M => .ok (.nx ρ) M
def sBk : SFn := fun ρ M => .ok (.bk ρ) M
def sCt : SFn := fun ρ M => .ok (.ct ρ) M
def sSeq (φ ψ : SFn) : SFn := fun ρ M => thenS (φ ρ M) ψ
def sDrop (φ : PFn) : SFn := fun ρ M => (stl (φ ρ M)).bind fun _ M1 => .ok (.nx ρ) M1
def sRet (φ : PFn) : SFn := fun ρ M => (φ ρ M).bind fun e M1 => .ok (.rt e) M1
def sRetN : SFn := fun _ M => .ok (.rt (.d (.p .none))) M
def sIf (t : TFn) (φ ψ : SFn) : SFn := fun ρ M => (t ρ M).bind fun b M1 => if b = true then φ ρ M1 else ψ ρ M1
def sSet (i : Nat) (φ : PFn) : SFn := fun ρ M => (stl (φ ρ M)).bind fun x M1 => .ok (.nx (ρ.set i (some x))) M1
/-- a new thing is to change -/
def eAl (φ : PFn) : PFn := fun ρ M => (φ ρ M).bind fun e M1 => match e with
  | .d x => .ok (.d x) M1
  | .new o => .ok (.d (.obj M1.length)) (M1 ++ [o])
def sPar (i j : Nat) (α : AFn) : SFn := fun ρ M => (α ρ M).bind fun ds M1 => match ds with
  | [x, y] => .ok (.nx ((ρ.set i (some x)).set j (some y))) M1
  | _ => .bad
def sPar3 (i j l : Nat) (α : AFn) : SFn := fun ρ M => (α ρ M).bind fun ds M1 => match ds with
  | [x, y, z] => .ok (.nx (((ρ.set i (some x)).set j (some y)).set l (some z))) M1
  | _ => .bad
section
variable {X : Cx} {T : Tb} {W : WX} {U : List Nat} {φ' ψ' : SFn} {φ ψ : PFn} {α : AFn} {st : Stmt} {sts : List Stmt} {e : Expr} {pos pos' : Pos}
theorem SR.set {K : PySem.W.Frag} {H : Hp} {G : Addr → Prop} {L : List Addr} {M : Mem} {σ : L2.St} {ρ : Env} (s : SR K T σ H ρ G L M) {i : Nat} {v : V} {x : D} (r : RD K T H G L M v x) : SR K T (σ.set i (some v)) H (ρ.set i (some x)) G L M := by
  refine ⟨s.mr, by simp [s.len], fun j y h => ?_⟩
  by_cases hj : i = j
  · subst hj
    by_cases hl : i < ρ.length
    · rw [List.getElem?_set_self hl] at h
      cases h
      exact ⟨v, by rw [List.getElem?_set_self (by rw [← s.len]; exact hl)], r⟩
    · rw [List.getElem?_eq_none (by simpa using hl)] at h; cases h
  · rw [List.getElem?_set_ne hj] at h
    obtain ⟨w, h1, h2⟩ := s.env j y h
    exact ⟨w, by rw [List.getElem?_set_ne hj]; exact h1, h2⟩
theorem bd_nil : BD X T W U sNx [] := ⟨fun pins s σ H D I h => by
  obtain ⟨ρ, G, L, M, sr, h⟩ := h
  exact pss_nil.run pins s σ H D I (h σ H L Nxt.refl sr .refl)⟩
theorem PS.imp' {t t' : TS} (h : PS X st t) (i : ∀ D σ H, t' D σ H → t D σ H) : PS X st t' := ⟨fun pins s σ H D I q => h.run pins s σ H D I (i D σ H q)⟩
theorem PSs.imp' {t t' : TS} (h : PSs X sts t) (i : ∀ D σ H, t' D σ H → t D σ H) : PSs X sts t' := ⟨fun pins s σ H D I q => h.run pins s σ H D I (i D σ H q)⟩
theorem bd_cons (h1 : SD X T W U φ' st) (h2 : BD X T W U ψ' sts) : BD X T W U (sSeq φ' ψ') (st :: sts) := PSs.imp' (pss_cons h1 h2) fun D σ H h => by
  obtain ⟨ρ, G, L, M, sr, h⟩ := h
  exact ⟨ρ, G, L, M, sr, PostS.seq h fun ρ' σ' H' L' M' s' h' => ⟨ρ', G, L', M', s', h'⟩⟩
theorem bd_one (h1 : SD X T W U φ' st) : BD X T W U φ' [st] := pss_one h1
theorem sd_pass : SD X T W U sNx (.Pass pos) := PS.imp' ps_pass fun D σ H h => by
  obtain ⟨ρ, G, L, M, sr, h⟩ := h
  exact h σ H L Nxt.refl sr .refl
theorem sd_break : SD X T W U sBk (.Break pos) := PS.imp' ps_break fun D σ H h => by
  obtain ⟨ρ, G, L, M, sr, h⟩ := h
  exact h σ H L Nxt.refl sr .refl
theorem sd_continue : SD X T W U sCt (.Continue pos) := PS.imp' ps_continue fun D σ H h => by
  obtain ⟨ρ, G, L, M, sr, h⟩ := h
  exact h σ H L Nxt.refl sr .refl
theorem sd_doc {x : Str} {j : Nat} : SD X T W U sNx (.Expr (.Constant (.str x) j pos) pos') := PS.imp' ps_doc fun D σ H h => by
  obtain ⟨ρ, G, L, M, sr, h⟩ := h
  exact h σ H L Nxt.refl sr .refl
theorem sd_expr (he : PD X T W φ e) (hs : swapsWith e none pos.line X.env = pure false) : SD X T W U (sDrop φ) (.Expr e pos) := PS.imp' (ps_expr he hs) fun D σ H h => by
  obtain ⟨ρ, G, L, M, sr, h⟩ := h
  exact ⟨ρ, G, L, M, sr, (Post.bindS h).mono fun v H1 ⟨x, L1, M1, n1, m1, r1, h1⟩ => h1 σ H1 L1 Nxt.refl (sr.ext n1 m1) .refl⟩
theorem sd_ret (he : PD X T W φ e) : SD X T W U (sRet φ) (.Return (some e) pos) := PS.imp' (ps_ret he) fun D σ H h => by
  obtain ⟨ρ, G, L, M, sr, h⟩ := h
  refine ⟨ρ, G, L, M, sr, ?_⟩
  show Post X.K T H G L M (φ ρ M) D.rt _
  unfold sRet at h
  cases e1 : φ ρ M with
  | ok e M' => rw [e1] at h; exact Post.ok_any h _
  | err y M' => rw [e1] at h; exact fun cls d H' L' n m q => h cls d σ H' L' n m q .refl
  | bad => rw [e1] at h; exact h
theorem sd_retN : SD X T W U sRetN (.Return none pos) := PS.imp' ps_retN fun D σ H h => by
  obtain ⟨ρ, G, L, M, sr, h⟩ := h
  exact h .non H L Nxt.refl sr.mr (.p .non)
theorem sd_if {t : TFn} {c : Expr} {p q : List Stmt} (hc : TD X T W t c) (ha : BD X T W U φ' p) (hb : BD X T W U ψ' q) : SD X T W U (sIf t φ' ψ') (.If c p q pos) := PS.imp' (ps_if hc ha hb) fun D σ H h => by
  obtain ⟨ρ, G, L, M, sr, h⟩ := h
  refine ⟨ρ, G, L, M, sr, (PostT.bindS h).mono fun k H1 ⟨L1, M1, n1, m1, h1⟩ => ?_⟩
  cases k with
  | true => exact ⟨ρ, G, L1, M1, sr.ext n1 m1, h1⟩
  | false => exact ⟨ρ, G, L1, M1, sr.ext n1 m1, h1⟩
/-- what is behind the value of name = value -/
theorem set_go {i : Nat} (hu : i ∈ U) {D : Ends} {σ : L2.St} {H : Hp} {ρ : Env} {G : Addr → Prop} {L : List Addr} {M : Mem} (sr : SR X.K T σ H ρ G L M) (h : PostS X.K T U σ H G L M (sSet i φ ρ M) D W) :
    Post X.K T H G L M (φ ρ M) (fun v H1 => gName i v σ H1 D.nx) (fun cls d H' => W cls d σ H') :=
  (Post.bindS h).mono fun v H1 ⟨x, L1, M1, n1, m1, r1, h1⟩ => h1 _ H1 L1 Nxt.refl ((sr.ext n1 m1).set r1) (.set hu)
theorem sd_set {i : Nat} {x : Str} (c : XOk X) (hu : i ∈ U) (hi : X.N[i]? = some x) (hx : Loc X.env.scope x) (hf : X.fn x = true ∨ X.env.scope.names.lookup x = some .local) (he : PD X T W φ e) (hs : swapsWith e (some (.Name x pos')) pos.line X.env = pure false) :
    SD X T W U (sSet i φ) (.Assign [.Name x pos'] e pos) := PS.imp' (ps_set c.nd hi hx he hs hf) fun D σ H h => by
  obtain ⟨ρ, G, L, M, sr, h⟩ := h
  exact ⟨ρ, G, L, M, sr, set_go hu sr h⟩
theorem Post.alloc {K : PySem.W.Frag} {H : Hp} {G : Addr → Prop} {L : List Addr} {M : Mem} {r : Res Ev} {Q : VK} {E : XK} (h : Post K T H G L M (r.bind fun e M1 => match e with
  | .d x => .ok (.d x) M1
  | .new o => .ok (.d (.obj M1.length)) (M1 ++ [o])) Q E) : Post K T H G L M r Q E := by
  cases r with
  | ok e M' =>
    cases e with
    | d x => exact h
    | new o =>
      intro p ho H' L' hp n m c
      exact h (.ref p) _ (L' ++ [p]) (n.trans (Nxt.alloc m.len hp)) (m.alloc hp c) (.obj (by rw [← m.len]; simp))
  | err x M' => exact h
  | bad => exact h
theorem pd_al (he : PD X T W φ e) : PD X T W (eAl φ) e := PE.imp he fun σ H Q h => by
  obtain ⟨ρ, G, L, M, sr, h⟩ := h
  exact ⟨ρ, G, L, M, sr, Post.alloc h⟩
theorem sd_par {i j : Nat} {x y : Str} {a b : Expr} {px py pt : Pos} {kt k2 : Nat} {pt2 : Pos} (c : XOk X) (hui : i ∈ U) (huj : j ∈ U) (hi : X.N[i]? = some x) (hj : X.N[j]? = some y) (hij : i ≠ j) (hx : X.env.scope.names.lookup x = some .local) (hy : X.env.scope.names.lookup y = some .local) (ha : AD X T W α [a, b])
    (hw : swappedStores [.Tuple [.Name x px, .Name y py] kt pt] (.Tuple [a, b] k2 pt2) X.env = pure (some [x, y])) (hs : swapsWithSole [.Tuple [.Name x px, .Name y py] kt pt] (.Tuple [a, b] k2 pt2) pos.line X.env = pure false) :
    SD X T W U (sPar i j α) (.Assign [.Tuple [.Name x px, .Name y py] kt pt] (.Tuple [a, b] k2 pt2) pos) := PS.imp' (ps_par c.calm c.nd hi hj hij hx hy ha hw hs) fun D σ H h => by
  obtain ⟨ρ, G, L, M, sr, h⟩ := h
  refine ⟨ρ, G, L, M, sr, (PostA.bindS h).mono fun vs H1 ⟨ds, L1, M1, n1, m1, r1, h1⟩ => ?_⟩
  split at h1
  · cases r1 with
    | cons a1 a2 =>
    cases a2 with
    | cons b1 b2 =>
    cases b2
    exact ⟨_, _, rfl, h1 _ H1 L1 Nxt.refl (((sr.ext n1 m1).set a1).set b1) ((Agr.set hui).trans (.set huj))⟩
  · exact h1.elim
theorem sd_par3 {i j l : Nat} {x y z : Str} {a b c' : Expr} {px py pz pt : Pos} {kt k2 : Nat} {pt2 : Pos} (c : XOk X) (hui : i ∈ U) (huj : j ∈ U) (hul : l ∈ U) (hi : X.N[i]? = some x) (hj : X.N[j]? = some y) (hl : X.N[l]? = some z) (hij : i ≠ j) (hil : i ≠ l) (hjl : j ≠ l)
    (hx : X.env.scope.names.lookup x = some .local) (hy : X.env.scope.names.lookup y = some .local) (hz : X.env.scope.names.lookup z = some .local) (ha : AD X T W α [a, b, c'])
    (hw : swappedStores [.Tuple [.Name x px, .Name y py, .Name z pz] kt pt] (.Tuple [a, b, c'] k2 pt2) X.env = pure (some [x, y, z])) (hs : swapsWithSole [.Tuple [.Name x px, .Name y py, .Name z pz] kt pt] (.Tuple [a, b, c'] k2 pt2) pos.line X.env = pure false) :
    SD X T W U (sPar3 i j l α) (.Assign [.Tuple [.Name x px, .Name y py, .Name z pz] kt pt] (.Tuple [a, b, c'] k2 pt2) pos) := PS.imp' (ps_par3 c.calm c.nd hi hj hl hij hil hjl hx hy hz ha hw hs) fun D σ H h => by
  obtain ⟨ρ, G, L, M, sr, h⟩ := h
  refine ⟨ρ, G, L, M, sr, (PostA.bindS h).mono fun vs H1 ⟨ds, L1, M1, n1, m1, r1, h1⟩ => ?_⟩
  split at h1
  · cases r1 with
    | cons a1 a2 =>
    cases a2 with
    | cons b1 b2 =>
    cases b2 with
    | cons c1 c2 =>
    cases c2
    exact ⟨_, _, _, rfl, h1 _ H1 L1 Nxt.refl ((((sr.ext n1 m1).set a1).set b1).set c1) (((Agr.set hui).trans (.set huj)).trans (.set hul))⟩
  · exact h1.elim
/-! ### name op= value -/
def sAug (i : Nat) (g : D → D → Mem → Option Ev) (φ : PFn) : SFn := fun ρ M => match ρ[i]? with
  | some (some x) => (stl (φ ρ M)).bind fun y M1 => (stl (ofO (g x y M1) M1)).bind fun z M2 => .ok (.nx (ρ.set i (some z))) M2
  | _ => .bad
theorem sd_aug {i : Nat} {x : Str} {op : Operator} {g : D → D → Mem → Option Ev} (c : XOk X) (hu : i ∈ U) (hi : X.N[i]? = some x) (hx : Loc X.env.scope x) (hf : X.fn x = true ∨ X.env.scope.names.lookup x = some .local) (he : PD X T W φ e) (ho : OpG X T (inplaceOp op) g) :
    SD X T W U (sAug i g φ) (.AugAssign (.Name x pos') op e pos) := PS.imp' (ps_aug (ti := fun x y H Q => ∃ a b r G L M, MR X.K H G L M ∧ RD X.K T H G L M x a ∧ RD X.K T H G L M y b ∧ g a b M = some r ∧ Post X.K T H G L M (.ok r M) Q never) c.nd hi hx he (fun pins s σ H a b v u Q I ra rb h => ho pins s σ H a b v u Q I ra rb h) hf) fun D σ H h => by
  obtain ⟨ρ, G, L, M, sr, h⟩ := h
  unfold sAug at h
  split at h
  · rename_i y ey
    obtain ⟨v, e1, r⟩ := sr.env i y ey
    refine ⟨v, e1, ρ, G, L, M, sr, (Post.bindS h).mono fun w H1 ⟨z, L1, M1, n1, m1, r1, h1⟩ => ?_⟩
    have h2 := Post.bindS h1
    obtain ⟨t, eg, q⟩ := ofO_post h2
    refine ⟨y, z, t, G, L1, M1, m1, r.ext n1, r1, eg, q.mono fun w2 H2 ⟨z2, L2, M2, n2, m2, r2, h3⟩ => ?_⟩
    exact h3 _ H2 L2 Nxt.refl (((sr.ext n1 m1).ext n2 m2).set r2) (.set hu)
  · exact h.elim
/-! ### o[i] = value -/
def dSet : D → D → D → Mem → Option Mem := fun o i v M => match o with
  | .obj n => match pur v M with
    | some (y, M1) => match M1[n]? with
      | some (.lst xs) => match i with
        | .p (.int k) => match ixN xs.length k with
          | some j => some (M1.set n (.lst (xs.set j y)))
          | none => none
        | _ => none
      | some (.dct kvs) => match i with
        | .p k => match keyOf k with
          | some _ => if kvs.length < sizeLine then some (M1.set n (.dct (dputP kvs k y))) else none
          | none => none
        | _ => none
      | _ => none
    | none => none
  | _ => none
def rSetG (X : Cx) (T : Tb) : TSet := fun o i v H Q => ∃ od id vd M' G L M, MR X.K H G L M ∧ RD X.K T H G L M o od ∧ RD X.K T H G L M i id ∧ RD X.K T H G L M v vd ∧ dSet od id vd M = some M' ∧ ∀ H', Nxt H L M H' L M' → MR X.K H' G L M' → Q H'
theorem set_g (c : XOk X) : PSet X (rSetG X T) := by
  intro pins s σ H o i v ov iv u Q I ro ri rv h
  obtain ⟨od, id, vd, M', G, L, M, m, r1, r2, r3, e, q⟩ := h
  unfold dSet at e
  split at e
  · rename_i n
    split at e
    · rename_i y M1 e1
      obtain ⟨n1, m1, q1⟩ := pur_ok m r3 e1
      split at e
      · rename_i xs e2
        split at e
        · rename_i k
          split at e
          · rename_i j ej
            cases e
            obtain ⟨a, vs, rfl, h1, h2, h3, h4⟩ := lst_at m1 (r1.ext n1) e2
            have := r2.int
            subst this
            exact set_list pins s σ H _ _ _ ov iv u Q I ro ri rv ⟨a, vs, k, j, rfl, rfl, h3, by rw [h4.length]; exact ej, q _ (n1.trans (Nxt.write h1 h2)) (m1.write h1 h2 (.lst (h4.set q1 j)))⟩
          · cases e
        · cases e
      · rename_i kvs e2
        split at e
        · rename_i k
          split at e
          · rename_i kk ek
            split at e
            · rename_i hz
              cases e
              obtain ⟨a, vs, rfl, h1, h2, h3, h4⟩ := dct_at m1 (r1.ext n1) e2
              cases r2 with
              | p r2 =>
              have := kV_of r2 ek
              subst this
              have ekP := keyOf_P ek
              subst ekP
              exact set_dict (by have := c.hu; omega) pins s σ H _ _ _ ov iv u Q I ro ri rv ⟨a, _, rfl, DPut.k h3 (by rw [h4.length]; exact hz), q _ (n1.trans (Nxt.write h1 h2)) (m1.write h1 h2 (.dct (h4.put q1)))⟩
            · cases e
          · cases e
        · cases e
      · cases e
    · cases e
  · cases e
def sSto (φo φi φv : PFn) : SFn := fun ρ M => (stl (φv ρ M)).bind fun v M1 => (stl (φo ρ M1)).bind fun o M2 => (stl (φi ρ M2)).bind fun i M3 => match dSet o i v M3 with
  | some M4 => .ok (.nx ρ) M4
  | none => .bad
theorem sd_sto {o i v : Expr} {φo φi φv : PFn} {tpos : Pos} (c : XOk X) (ho : PD X T W φo o) (hi : PD X T W φi i) (hv : PD X T W φv v) (hs : swapsWithSole [.Subscript o i tpos] v pos.line X.env = pure false) (hw : swappedStores [.Subscript o i tpos] v X.env = pure none)
    (ha : ∀ v, assign (.Subscript o i tpos) X.env v = (do
      let ov ← holding [v] (eval o X.env)
      let iv ← holding [v, ov] (eval i X.env)
      standAt tpos
      holding [v, ov, iv] (setItem ov iv v)
      release [v, ov, iv] [])) (h1 : (assignEach [.Subscript o i tpos] X.env).map (·.2) = [assign (.Subscript o i tpos) X.env]) :
    SD X T W U (sSto φo φi φv) (.Assign [.Subscript o i tpos] v pos) := PS.imp' (ps_asg hv (pg_sub ho hi (set_g c) ha) hs hw h1) fun D σ H h => by
  obtain ⟨ρ, G, L, M, sr, h⟩ := h
  refine ⟨ρ, G, L, M, sr, (Post.bindS h).mono fun w H1 ⟨z, L1, M1, n1, m1, r1, h1⟩ => ?_⟩
  have s1 := sr.ext n1 m1
  refine ⟨ρ, G, L1, M1, s1, (Post.bindS h1).mono fun w2 H2 ⟨z2, L2, M2, n2, m2, r2, h2⟩ => ?_⟩
  have s2 := s1.ext n2 m2
  refine ⟨ρ, G, L2, M2, s2, (Post.bindS h2).mono fun w3 H3 ⟨z3, L3, M3, n3, m3, r3, h3⟩ => ?_⟩
  have s3 := s2.ext n3 m3
  split at h3
  · rename_i M4 e4
    exact ⟨z2, z3, z, M4, G, L3, M3, m3, r2.ext n3, r3, (r1.ext n2).ext n3, e4, fun H' n4 m4 => h3 σ H' L3 n4 (s3.ext n4 m4) .refl⟩
  · exact h3.elim
end
end Cb

set_option Elab.async false
set_option linter.all false
set_option maxRecDepth 100000
/-! Cb, part H: targets, what is walked, loops. -/
namespace Cb
open PySem PySem.Spec PyProof.Rows L2

/-! ### targets of loops: the item is plain data -/
abbrev GFn := P → Env → Option Env
section
variable (X : Cx) (T : Tb) (U : List Nat)
def tG (γ : GFn) : TG := fun v σ H Q => ∃ ρ ρ' G L M x, SR X.K T σ H ρ G L M ∧ Rp X.K H (Fbd L M G) v x ∧ γ x ρ = some ρ' ∧ ∀ σ', SR X.K T σ' H ρ' G L M → Agr U σ σ' → Q σ' H
def GD (γ : GFn) (tg : Expr) : Prop := PG X tg (tG X T U γ)
abbrev GsFn := List P → Env → Option Env
def tGs (γ : GsFn) : TGs := fun vs σ H Q => ∃ ρ ρ' G L M xs, SR X.K T σ H ρ G L M ∧ RpAll X.K H (Fbd L M G) vs xs ∧ γ xs ρ = some ρ' ∧ ∀ σ', SR X.K T σ' H ρ' G L M → Agr U σ σ' → Q σ' H
def GsD (γ : GsFn) (ts : List Expr) : Prop := PGs X ts (tGs X T U γ)
end
theorem PG.imp {X : Cx} {tg : Expr} {t t' : TG} (h : PG X tg t) (i : ∀ v σ H Q, t' v σ H Q → t v σ H Q) : PG X tg t' := ⟨fun pins s σ H v u Q I r q => h.run pins s σ H v u Q I r (i v σ H Q q)⟩
theorem PGs.imp {X : Cx} {ts : List Expr} {t t' : TGs} (h : PGs X ts t) (i : ∀ v σ H Q, t' v σ H Q → t v σ H Q) : PGs X ts t' := ⟨fun pins s σ H v u Q I r q => h.run pins s σ H v u Q I r (i v σ H Q q)⟩
def gNm (i : Nat) : GFn := fun x ρ => some (ρ.set i (some (.p x)))
def gsNil : GsFn := fun xs ρ => match xs with
  | [] => some ρ
  | _ => none
def gsCons (γ : GFn) (γs : GsFn) : GsFn := fun xs ρ => match xs with
  | [] => none
  | x :: r => match γ x ρ with
    | some ρ' => γs r ρ'
    | none => none
def gTp (γs : GsFn) : GFn := fun x ρ => match x with
  | .tuple xs => γs xs ρ
  | _ => none
section
variable {X : Cx} {T : Tb} {U : List Nat} {pos : Pos} {tg : Expr} {ts : List Expr} {γ : GFn} {γs : GsFn}
theorem gd_name {i : Nat} {x : Str} (c : XOk X) (hu : i ∈ U) (hi : X.N[i]? = some x) (hx : Loc X.env.scope x) (hf : X.fn x = true ∨ X.env.scope.names.lookup x = some .local) : GD X T U (gNm i) (.Name x pos) := PG.imp (pg_name c.nd hi hx hf) fun v σ H Q h => by
  obtain ⟨ρ, ρ', G, L, M, y, sr, r, e, q⟩ := h
  cases e
  exact q _ (sr.set (.p r)) (.set hu)
theorem gsd_nil : GsD X T U gsNil [] := PGs.imp pgs_nil fun v σ H Q h => by
  obtain ⟨ρ, ρ', G, L, M, y, sr, r, e, q⟩ := h
  unfold gsNil at e
  split at e
  · cases e
    cases r
    exact ⟨rfl, q σ sr .refl⟩
  · cases e
/-- not a starred target -/
theorem gsd_cons (h1 : GD X T U γ tg) (h2 : GsD X T U γs ts) (hs : (assignEach (tg :: ts) X.env).map (·.2) = assign tg X.env :: (assignEach ts X.env).map (·.2)) : GsD X T U (gsCons γ γs) (tg :: ts) := PGs.imp (pgs_cons h1 h2 hs) fun v σ H Q h => by
  obtain ⟨ρ, ρ', G, L, M, y, sr, r, e, q⟩ := h
  unfold gsCons at e
  split at e
  · cases e
  · split at e
    · rename_i ρ1 e1
      cases r with
      | cons r1 r2 => exact ⟨_, _, rfl, ρ, ρ1, G, L, M, _, sr, r1, e1, fun σ' s' a' => ⟨ρ1, ρ', G, L, M, _, s', r2, e, fun σ2 s2 a2 => q σ2 s2 (a'.trans a2)⟩⟩
    · cases e
theorem gd_tup {k : Nat} (c : XOk X) (h : GsD X T U γs ts) (hn : (assignEach ts X.env).length = ts.length) (hl : ∀ xs ρ ρ', γs xs ρ = some ρ' → xs.length = ts.length) (hst : (assignEach ts X.env).findIdx? (·.1) = none) : GD X T U (gTp γs) (.Tuple ts k pos) := PG.imp (pg_tup c.calm h hn hst) fun v σ H Q h => by
  obtain ⟨ρ, ρ', G, L, M, y, sr, r, e, q⟩ := h
  unfold gTp at e
  split at e
  · rename_i xs
    have hlen := hl xs ρ ρ' e
    cases r with
    | tup h1 hn1 r1 => exact ⟨_, _, rfl, .inl h1, by rw [r1.length]; exact hlen, ρ, ρ', G, L, M, xs, sr, r1, e, q⟩
    | tupK h1 h2 h3 h4 h5 r1 => exact ⟨_, _, rfl, .inr ⟨_, _, _, h1, h2, h3, h4, h5⟩, by rw [r1.length]; exact hlen, ρ, ρ', G, L, M, xs, sr, r1, e, q⟩
  · cases e
end
theorem gsNil_len : ∀ xs ρ ρ', gsNil xs ρ = some ρ' → xs.length = 0 := fun xs ρ ρ' e => by
  unfold gsNil at e
  split at e
  · rfl
  · cases e
theorem gsCons_len {γ : GFn} {γs : GsFn} {n : Nat} (h : ∀ xs ρ ρ', γs xs ρ = some ρ' → xs.length = n) : ∀ xs ρ ρ', gsCons γ γs xs ρ = some ρ' → xs.length = n + 1 := fun xs ρ ρ' e => by
  unfold gsCons at e
  split at e
  · cases e
  · split at e
    · rw [List.length_cons, h _ _ _ e]
    · cases e

/-! ### what is walked -/
abbrev Stp := Nat → Mem → Option (Option P)
/-- one state's knowledge in another -/
def Ext (H1 : Hp) (F1 : Addr → Prop) (L1 : List Addr) (H : Hp) (F : Addr → Prop) (L : List Addr) : Prop := Keeps H1 F1 H F ∧ ∀ (n : Nat) (a : Addr), L1[n]? = some a → L[n]? = some a
theorem Nxt.ext {H H' : Hp} {G : Addr → Prop} {L L' : List Addr} {M M' : Mem} (x : Nxt H L M H' L' M') : Ext H (Fbd L M G) L H' (Fbd L' M' G) L' := ⟨x.keeps, fun _ _ h => x.get h⟩
theorem Ext.refl {H : Hp} {F : Addr → Prop} {L : List Addr} : Ext H F L H F L := ⟨Keeps.refl, fun _ _ h => h⟩
theorem Ext.trans {H H' H2 : Hp} {F F' F2 : Addr → Prop} {L L' L2 : List Addr} (a : Ext H F L H' F' L') (b : Ext H' F' L' H2 F2 L2) : Ext H F L H2 F2 L2 := ⟨a.1.trans b.1, fun n c h => b.2 n c (a.2 n c h)⟩
section
variable (K : PySem.W.Frag)
structure ItOk (H1 : Hp) (F1 : Addr → Prop) (L1 : List Addr) (J : It) (step : Stp) : Prop where
  stop : ∀ i H G L M, Ext H1 F1 L1 H (Fbd L M G) L → MR K H G L M → step i M = some none → J.stop i H
  go : ∀ i H G L M x, Ext H1 F1 L1 H (Fbd L M G) L → MR K H G L M → step i M = some (some x) → J.go i H ∧ ∀ v H', J.yld i H v H' → (H' = H ∨ ∃ p ho, H p = none ∧ H' = upd H p ho) ∧ Rp K H' (Fbd L M G) v x
variable (T : Tb)
def PostI (H : Hp) (G : Addr → Prop) (L : List Addr) (M : Mem) (r : Res Stp) (R : It → Hp → Prop) (E : XK) : Prop :=
  match r with
  | .ok st M' => ∀ J H' L', Nxt H L M H' L' M' → MR K H' G L' M' → ItOk K H' (Fbd L' M' G) L' J st → R J H'
  | .err x M' => ∀ cls d H' L', Nxt H L M H' L' M' → MR K H' G L' M' → XR K T H' (Fbd L' M' G) x cls d → E cls d H'
  | .bad => False
end
abbrev IFn := Env → Mem → Res Stp
section
variable (X : Cx) (T : Tb) (W : WX)
def tI (ι : IFn) : TI := fun σ H R => ∃ ρ G L M, SR X.K T σ H ρ G L M ∧ PostI X.K T H G L M (ι ρ M) R fun cls d H' => W cls d σ H'
def ID (ι : IFn) (tg iter : Expr) : Prop := PI X tg iter (tI X T W ι)
end
theorem ItOk.ext {K : PySem.W.Frag} {H1 H2 : Hp} {F1 F2 : Addr → Prop} {L1 L2 : List Addr} {J : It} {step : Stp} (h : ItOk K H1 F1 L1 J step) (x : Ext H1 F1 L1 H2 F2 L2) : ItOk K H2 F2 L2 J step :=
  ⟨fun i H G L M e => h.stop i H G L M (x.trans e), fun i H G L M y e => h.go i H G L M y (x.trans e)⟩

/-! ### for -/
@[irreducible] def FUEL : Nat := 16777217
theorem FUEL_eq : FUEL = 16777217 := by unfold FUEL; rfl
def forL (step : Stp) (γ : GFn) (body els : SFn) : Nat → Nat → Env → Mem → Res Out
  | 0, _, _, _ => .bad
  | f + 1, i, ρ, M => match step i M with
    | none => .bad
    | some none => els ρ M
    | some (some x) => match γ x ρ with
      | none => .bad
      | some ρ1 => (body ρ1 M).bind fun o M1 => match o with
        | .nx ρ2 => forL step γ body els f (i + 1) ρ2 M1
        | .ct ρ2 => forL step γ body els f (i + 1) ρ2 M1
        | .bk ρ2 => .ok (.nx ρ2) M1
        | .rt e => .ok (.rt e) M1
def sFor (ι : IFn) (γ : GFn) (body els : SFn) : SFn := fun ρ M => (ι ρ M).bind fun st M1 => forL st γ body els FUEL 0 ρ M1
section
variable {X : Cx} {T : Tb} {W : WX} {U : List Nat} {pos : Pos} {tg iter : Expr} {ι : IFn} {γ : GFn} {bφ eφ : SFn} {body orelse : List Stmt}
theorem PostI.bindS {K : PySem.W.Frag} {H : Hp} {G : Addr → Prop} {L : List Addr} {M : Mem} {σ : L2.St} {r : Res Stp} {k : Stp → Mem → Res Out} {E : Ends} (h : PostS K T U σ H G L M (r.bind k) E W) :
    PostI K T H G L M r (fun J H1 => ∃ st L1 M1, Nxt H L M H1 L1 M1 ∧ MR K H1 G L1 M1 ∧ ItOk K H1 (Fbd L1 M1 G) L1 J st ∧ PostS K T U σ H1 G L1 M1 (k st M1) E W) (fun cls d H' => W cls d σ H') := by
  cases r with
  | ok st M' => exact fun J H' L' n m q => ⟨st, L', M', n, m, q, PostS.start n .refl h⟩
  | err y M' => exact fun cls d H' L' n m q => h cls d σ H' L' n m q .refl
  | bad => exact h
theorem sd_for (c : XOk X) (hp : PassesOwn (model X.prog X.w) X.A X.env X.xe) (hi : ID X T W ι tg iter) (hg : GD X T U γ tg) (hb : BD X T W U bφ body) (ho : BD X T W U eφ orelse) (hs : ∀ x, foldedSetIterable iter X.env x = pure x) :
    SD X T W U (sFor ι γ bφ eφ) (.For tg iter body orelse pos) := PS.imp' (ps_forE hp c.calm hi hg hb ho hs) fun D σ H h => by
  obtain ⟨ρ, G, L, M, sr, h⟩ := h
  refine ⟨ρ, G, L, M, sr, ?_⟩
  have h1 := PostI.bindS h
  revert h1
  generalize ι ρ M = r
  intro h1
  cases r with
  | bad => exact h1
  | err x M' => exact h1
  | ok st M0 =>
    intro J H0 L0 n0 m0 io
    obtain ⟨st', L1, M1, n1, m1, io1, h2⟩ := h1 J H0 L0 n0 m0 io
    have s1 := sr.ext n1 m1
    refine ⟨fun i f σ' H' => ∃ ρ' L' M', SR X.K T σ' H' ρ' G L' M' ∧ Nxt H0 L1 M1 H' L' M' ∧ Agr U σ σ' ∧ PostS X.K T U σ' H' G L' M' (forL st' γ bφ eφ f i ρ' M') D W, ⟨FUEL, ρ, L1, M1, s1, Nxt.refl, .refl, h2⟩, ?_⟩
    rintro i f σ' H' ⟨ρ', L', M', s', n', a', p⟩
    cases f with
    | zero => exact False.elim p
    | succ f =>
      unfold forL at p
      split at p
      · exact False.elim p
      · rename_i e
        exact .inl ⟨io1.stop i H' G L' M' n'.ext s'.mr e, ρ', G, L', M', s', p⟩
      · rename_i x e
        obtain ⟨go, yl⟩ := io1.go i H' G L' M' x n'.ext s'.mr e
        split at p
        · exact False.elim p
        · rename_i ρ1 eγ
          refine .inr ⟨go, fun σ2 H2 => ∃ ρ' L' M', SR X.K T σ2 H2 ρ' G L' M' ∧ Nxt H0 L1 M1 H2 L' M' ∧ Agr U σ σ2 ∧ PostS X.K T U σ2 H2 G L' M' (forL st' γ bφ eφ f (i + 1) ρ' M') D W, fun σ2 H2 w => ⟨f, Nat.lt_succ_self _, w⟩, fun v H2 y => ?_⟩
          obtain ⟨hH, rx⟩ := yl v H2 y
          have n2 : Nxt H' L' M' H2 L' M' := by
            rcases hH with rfl | ⟨pa, ho', hp, rfl⟩
            · exact Nxt.refl
            · exact Nxt.fresh hp
          have m2 : MR X.K H2 G L' M' := by
            rcases hH with rfl | ⟨pa, ho', hp, rfl⟩
            · exact s'.mr
            · exact s'.mr.fresh hp
          refine ⟨ρ', ρ1, G, L', M', x, s'.ext n2 m2, rx, eγ, fun σ3 s3 a3 => ⟨ρ1, G, L', M', s3, ?_⟩⟩
          revert p
          generalize bφ ρ1 M' = rb
          intro p
          cases rb with
          | bad => exact False.elim p
          | err z Mz => exact fun cls d σ4 H4 L4 n4 m4 q4 a4 => p cls d σ4 H4 L4 (n2.trans n4) m4 q4 (a3.trans a4)
          | ok o Mo =>
            cases o with
            | nx ρ2 => exact fun σ4 H4 L4 n4 s4 a4 => ⟨ρ2, L4, Mo, s4, n'.trans (n2.trans n4), a'.trans (a3.trans a4), PostS.start (n2.trans n4) (a3.trans a4) p⟩
            | ct ρ2 => exact fun σ4 H4 L4 n4 s4 a4 => ⟨ρ2, L4, Mo, s4, n'.trans (n2.trans n4), a'.trans (a3.trans a4), PostS.start (n2.trans n4) (a3.trans a4) p⟩
            | bk ρ2 => exact fun σ4 H4 L4 n4 s4 a4 => p σ4 H4 L4 (n2.trans n4) s4 (a3.trans a4)
            | rt e => exact Post.start n2 p

/-! ### while -/
end
def whL (t : TFn) (body els : SFn) : Nat → Env → Mem → Res Out
  | 0, _, _ => .bad
  | f + 1, ρ, M => (t ρ M).bind fun b M1 => if b = true then (body ρ M1).bind fun o M2 => match o with
      | .nx ρ2 => whL t body els f ρ2 M2
      | .ct ρ2 => whL t body els f ρ2 M2
      | .bk ρ2 => .ok (.nx ρ2) M2
      | .rt e => .ok (.rt e) M2
    else els ρ M1
def sWh (t : TFn) (body els : SFn) : SFn := fun ρ M => whL t body els FUEL ρ M
section
variable {X : Cx} {T : Tb} {W : WX} {U : List Nat} {pos : Pos} {c0 : Expr} {t : TFn} {bφ eφ : SFn} {body orelse : List Stmt}
theorem sd_while (c : XOk X) (hp : PassesOwn (model X.prog X.w) X.A X.env X.xe) (hc : TD X T W t c0) (hb : BD X T W U bφ body) (ho : BD X T W U eφ orelse) : SD X T W U (sWh t bφ eφ) (.While c0 body orelse pos) := PS.imp' (ps_whileE hp hc hb ho) fun D σ H h => by
  obtain ⟨ρ, G, L, M, sr, h⟩ := h
  refine ⟨fun f σ' H' => ∃ ρ' L' M', SR X.K T σ' H' ρ' G L' M' ∧ Nxt H L M H' L' M' ∧ Agr U σ σ' ∧ PostS X.K T U σ' H' G L' M' (whL t bφ eφ f ρ' M') D W, ⟨FUEL, ρ, L, M, sr, Nxt.refl, .refl, h⟩, ?_⟩
  rintro f σ' H' ⟨ρ', L', M', s', n', a', p⟩
  cases f with
  | zero => exact False.elim p
  | succ f =>
    unfold whL at p
    refine ⟨ρ', G, L', M', s', (PostT.bindS p).mono fun b H1 ⟨L1, M1, n1, m1, h1⟩ => ?_⟩
    have s1 := s'.ext n1 m1
    cases b with
    | false => exact ⟨ρ', G, L1, M1, s1, h1⟩
    | true =>
      rw [if_pos rfl] at h1
      refine ⟨fun σ2 H2 => ∃ ρ' L' M', SR X.K T σ2 H2 ρ' G L' M' ∧ Nxt H L M H2 L' M' ∧ Agr U σ σ2 ∧ PostS X.K T U σ2 H2 G L' M' (whL t bφ eφ f ρ' M') D W, fun σ2 H2 w => ⟨f, Nat.lt_succ_self _, w⟩, ρ', G, L1, M1, s1, ?_⟩
      revert h1
      generalize bφ ρ' M1 = rb
      intro p
      cases rb with
      | bad => exact False.elim p
      | err z Mz => exact p
      | ok o Mo =>
        cases o with
        | nx ρ2 => exact fun σ4 H4 L4 n4 s4 a4 => ⟨ρ2, L4, Mo, s4, n'.trans (n1.trans n4), a'.trans a4, PostS.start n4 a4 p⟩
        | ct ρ2 => exact fun σ4 H4 L4 n4 s4 a4 => ⟨ρ2, L4, Mo, s4, n'.trans (n1.trans n4), a'.trans a4, PostS.start n4 a4 p⟩
        | bk ρ2 => exact p
        | rt e => exact p
end

/-! ### the iterators -/
def stL (xs : List P) : Stp := fun i _ => some xs[i]?
/-- a changing list, as it stands at each turn -/
def stO (n : Nat) : Stp := fun i M => match M[n]? with
  | some (.lst xs) => some xs[i]?
  | _ => none
def stR (lo : Int) (n : Nat) : Stp := fun i _ => if i < n then some (some (.int (lo + i))) else some none
def stC (lo c : Int) (n : Nat) : Stp := fun i _ => if i < n then some (some (.int (lo + (i : Nat) * c))) else some none
section
variable {K : PySem.W.Frag} {H1 : Hp} {F1 : Addr → Prop} {L1 : List Addr}
theorem it_list {a : Addr} {vs : List V} {xs : List P} (h : FL K H1 F1 a vs) (r : RpAll K H1 F1 vs xs) : ItOk K H1 F1 L1 (Itl K a) (stL xs) := by
  refine ⟨fun i H G L M x m e => ?_, fun i H G L M y x m e => ?_⟩
  · have e' : xs[i]? = none := by simpa [stL] using e
    exact ⟨vs, (h.ext x.1).sq, by rw [r.length]; exact List.getElem?_eq_none_iff.mp e'⟩
  · have e' : xs[i]? = some y := by simpa [stL] using e
    have r' := RpAll.ext x.1 _ _ r
    obtain ⟨v, hv, rv⟩ := r'.get e'
    have hq : SqL K H a vs := (h.ext x.1).sq
    exact ⟨⟨vs, v, hq, hv⟩, fun w H' yl => ⟨.inl yl.1, by
      have := yl.2 vs hq
      rw [hv] at this; cases this
      rw [yl.1]; exact rv⟩⟩
theorem it_tup {a : Addr} {vs : List V} {xs : List P} (r0 : Rp K H1 F1 (.ref a) (.tuple xs)) : ItOk K H1 F1 L1 (Itt K a) (stL xs) := by
  have sq : ∀ {H : Hp} {F : Addr → Prop}, Keeps H1 F1 H F → ∃ us, SqT K H a us ∧ RpAll K H F us xs := fun {H F} k => by
    have r1 := Rp.ext k _ _ r0
    cases r1 with
    | tup h hn r => exact ⟨_, .inl h, r⟩
    | tupK h1 h2 h3 h4 h5 r => exact ⟨_, .inr ⟨_, _, _, h1, h2, h3, h4, h5⟩, r⟩
  refine ⟨fun i H G L M x m e => ?_, fun i H G L M y x m e => ?_⟩
  · have e' : xs[i]? = none := by simpa [stL] using e
    obtain ⟨us, h1, r⟩ := sq x.1
    exact ⟨us, h1, by rw [r.length]; exact List.getElem?_eq_none_iff.mp e'⟩
  · have e' : xs[i]? = some y := by simpa [stL] using e
    obtain ⟨us, h1, r⟩ := sq x.1
    obtain ⟨v, hv, rv⟩ := r.get e'
    exact ⟨⟨us, v, h1, hv⟩, fun w H' yl => ⟨.inl yl.1, by
      have := yl.2 us h1
      rw [hv] at this; cases this
      rw [yl.1]; exact rv⟩⟩
theorem it_obj {a : Addr} {n : Nat} (h : L1[n]? = some a) : ItOk K H1 F1 L1 (Itl K a) (stO n) := by
  refine ⟨fun i H G L M x m e => ?_, fun i H G L M y x m e => ?_⟩
  · unfold stO at e
    split at e
    · rename_i ys e2
      obtain ⟨ho, e3, c⟩ := m.at_ n a _ (x.2 n a h) e2 rfl
      cases c with
      | lst r => exact ⟨_, .inl (.inl e3), by rw [r.length]; exact List.getElem?_eq_none_iff.mp (by simpa using e)⟩
    · cases e
  · unfold stO at e
    split at e
    · rename_i ys e2
      obtain ⟨ho, e3, c⟩ := m.at_ n a _ (x.2 n a h) e2 rfl
      cases c with
      | lst r =>
        have e' : ys[i]? = some y := by simpa using e
        obtain ⟨v, hv, rv⟩ := r.get e'
        have hq : SqL K H a _ := .inl (.inl e3)
        exact ⟨⟨_, v, hq, hv⟩, fun w H' yl => ⟨.inl yl.1, by
          have := yl.2 _ hq
          rw [hv] at this; cases this
          rw [yl.1]; exact rv⟩⟩
    · cases e
theorem it_range {lo : Int} {n : Nat} : ItOk K H1 F1 L1 (Itr lo n) (stR lo n) := by
  refine ⟨fun i H G L M x m e => ?_, fun i H G L M y x m e => ?_⟩
  · unfold stR at e
    split at e
    · cases e
    · exact Nat.le_of_not_lt (by assumption)
  · unfold stR at e
    split at e
    · rename_i hi
      cases e
      exact ⟨hi, fun w H' yl => ⟨.inl yl.1, by rw [yl.2]; exact .int _⟩⟩
    · cases e
theorem it_rangeC {lo k : Int} {n : Nat} : ItOk K H1 F1 L1 (Itc lo k n) (stC lo k n) := by
  refine ⟨fun i H G L M x m e => ?_, fun i H G L M y x m e => ?_⟩
  · unfold stC at e
    split at e
    · cases e
    · exact Nat.le_of_not_lt (by assumption)
  · unfold stC at e
    split at e
    · rename_i hi
      cases e
      exact ⟨hi, fun w H' yl => ⟨.inl yl.1, by rw [yl.2]; exact .int _⟩⟩
    · cases e
theorem it_str {x : Str} : ItOk K H1 F1 L1 (Its x) (fun i _ => some ((x.cps[i]?).map fun c => .str ⟨#[c]⟩)) := by
  refine ⟨fun i H G L M z m e => ?_, fun i H G L M y z m e => ?_⟩
  · have e' : x.cps[i]? = none := by simpa using e
    exact Array.getElem?_eq_none_iff.mp e'
  · simp only [Option.some.injEq, Option.map_eq_some_iff] at e
    obtain ⟨k, e1, e2⟩ := e
    refine ⟨(Array.getElem?_eq_some_iff.mp e1).1, fun w H' yl => ⟨.inl yl.1, ?_⟩⟩
    obtain ⟨h1, k2, e3, e4⟩ := yl
    rw [e1] at e3; cases e3
    subst e4 e2 h1
    exact .str _ (by show 1 ≤ sizeLine; exact one_le_line)
end
/-- a list, a tuple, a text as they are -/
def iVal : D → Mem → Option Stp
  | .p (.list xs), _ => some (stL xs)
  | .p (.tuple xs), _ => some (stL xs)
  | .p (.str x), _ => some fun i _ => some ((x.cps[i]?).map fun c => .str ⟨#[c]⟩)
  | .frz xs, _ => some (stL xs)
  | .obj n, M => match M[n]? with
    | some (.lst _) => some (stO n)
    | _ => none
  | _, _ => none
def ofI (r : Option Stp) (M : Mem) : Res Stp := match r with
  | some r => .ok r M
  | none => .bad
def iE (φ : PFn) : IFn := fun ρ M => (stl (φ ρ M)).bind fun x M1 => ofI (iVal x M1) M1
theorem PI.imp {X : Cx} {tg iter : Expr} {t t' : TI} (h : PI X tg iter t) (i : ∀ σ H R, t' σ H R → t σ H R) : PI X tg iter t' := ⟨fun pins s σ H R I q => h.run pins s σ H R I (i σ H R q)⟩
theorem PI.cases {X : Cx} {tg iter : Expr} {t' : TI} (h : ∀ σ H R, t' σ H R → ∃ t, PI X tg iter t ∧ t σ H R) : PI X tg iter t' := ⟨fun pins s σ H R I q => by
  obtain ⟨t, ht, q'⟩ := h σ H R q
  exact ht.run pins s σ H R I q'⟩
section
variable {X : Cx} {T : Tb} {W : WX} {pos p : Pos} {tg iter e : Expr} {es : List Expr} {φ : PFn} {α : AFn} {ι : IFn}
/-- the readings by the kind of the value -/
theorem id_val (he : PD X T W φ iter) : ID X T W (iE φ) tg iter := PI.cases fun σ H R h => by
  obtain ⟨ρ, G, L, M, sr, h⟩ := h
  unfold iE at h
  generalize er : φ ρ M = r at h
  cases r with
  | bad => exact False.elim h
  | err x M' => exact ⟨iTup X.K (tE X T W φ), pi_tup he, ρ, G, L, M, sr, by rw [er]; exact h⟩
  | ok ev M' =>
    cases ev with
    | new o =>
      cases o with
      | dead => exact False.elim h
      | dct kvs => exact False.elim h
      | lst xs =>
        refine ⟨iList X.K (tE X T W φ), pi_list he, ρ, G, L, M, sr, ?_⟩
        rw [er]
        intro pa ho H' L' hp n m c
        have rr := c.rp m hp
        cases c with
        | lst r0 =>
        refine ⟨pa, rfl, ⟨_, .inl (.inl upd_same)⟩, h _ _ L' (n.trans (Nxt.fresh hp)) (m.fresh hp) ?_⟩
        cases rr with
        | lst h1 h2 h3 => exact it_list (.inl ⟨.inl h1, h2⟩) h3
    | d x =>
      cases x with
      | p d =>
        cases d with
        | list xs =>
          refine ⟨iList X.K (tE X T W φ), pi_list he, ρ, G, L, M, sr, ?_⟩
          rw [er]
          intro v H' L' n m r
          cases r with
          | p r =>
          cases r with
          | lst h1 h2 h3 => exact ⟨_, rfl, ⟨_, .inl (.inl h1)⟩, h _ _ L' n m (it_list (.inl ⟨.inl h1, h2⟩) h3)⟩
        | tuple xs =>
          refine ⟨iTup X.K (tE X T W φ), pi_tup he, ρ, G, L, M, sr, ?_⟩
          rw [er]
          intro v H' L' n m r
          cases r with
          | p r =>
          cases r with
          | tup h1 h2 h3 => exact ⟨_, rfl, ⟨_, .inl h1⟩, h _ _ L' n m (it_tup (vs := []) (.tup h1 h2 h3))⟩
          | tupK h1 h2 h3 h4 h5 h6 => exact ⟨_, rfl, ⟨_, .inr ⟨_, _, _, h1, h2, h3, h4, h5⟩⟩, h _ _ L' n m (it_tup (vs := []) (.tupK h1 h2 h3 h4 h5 h6))⟩
        | str x =>
          refine ⟨iStr (tE X T W φ), pi_str he, ρ, G, L, M, sr, ?_⟩
          rw [er]
          intro v H' L' n m r
          cases r with
          | p r =>
          cases r with
          | str _ hz => exact ⟨x, rfl, h _ _ L' n m it_str⟩
        | none => exact False.elim h
        | bool _ => exact False.elim h
        | int _ => exact False.elim h
        | dict _ => exact False.elim h
      | frz xs =>
        refine ⟨iList X.K (tE X T W φ), pi_list he, ρ, G, L, M, sr, ?_⟩
        rw [er]
        intro v H' L' n m r
        cases r with
        | frz h1 h3 => exact ⟨_, rfl, ⟨_, h1.sq⟩, h _ _ L' n m (it_list h1 h3)⟩
      | obj k =>
        cases e2 : M'[k]? with
        | none => simp [iVal, e2, ofI, PostI] at h
        | some o =>
          cases o with
          | dead => simp [iVal, e2, ofI, PostI] at h
          | dct kvs => simp [iVal, e2, ofI, PostI] at h
          | lst xs =>
            simp only [stl_ok, Ev.stl_d, Res.bind_ok, iVal, e2, ofI] at h
            refine ⟨iList X.K (tE X T W φ), pi_list he, ρ, G, L, M, sr, ?_⟩
            rw [er]
            intro v H' L' n m r
            obtain ⟨a, vs, rfl, h1, h2, h3, h4⟩ := lst_at m r e2
            exact ⟨a, rfl, ⟨vs, .inl (.inl h3)⟩, h _ _ L' n m (it_obj h1)⟩
      | fn id => exact False.elim h
      | ty n => exact False.elim h
/-- range(b), range(a, b), range(a, b, -1) -/
@[irreducible] def smallI (i : Int) : Bool := decide (-(2 ^ 62) ≤ i ∧ i < 2 ^ 62)
theorem smallI_ok {i : Int} (h : smallI i = true) : -(2 ^ 62) ≤ i ∧ i < 2 ^ 62 := by unfold smallI at h; exact of_decide_eq_true h
def rg1 : List D → Option Stp
  | [.p (.int j)] => if smallI j = true then some (stR 0 j.toNat) else none
  | _ => none
def rg2 : List D → Option Stp
  | [.p (.int i), .p (.int j)] => if (smallI i && smallI j) = true then some (stR i (j - i).toNat) else none
  | _ => none
def rg3 : List D → Option Stp
  | [.p (.int i), .p (.int j), .p (.int c)] => if (smallI i && smallI j && decide (c = -1)) = true then some (stC i (-1) (i - j).toNat) else none
  | _ => none
def iRg (k : List D → Option Stp) (α : AFn) : IFn := fun ρ M => (α ρ M).bind fun ds M1 => ofI (k ds) M1
theorem id_range1 {a : Expr} (hg : Gl X "range") (hm : X.mg "range" = none) (hs : starB a = false) (ha : AD X T W α [a]) : ID X T W (iRg rg1 α) tg (.Call (.Name "range" p) [a] [] pos) := PI.imp (pi_range1 hg hm ha (by rw [star_cons hs]; rfl)) fun σ H R h => by
  obtain ⟨ρ, G, L, M, sr, h⟩ := h
  refine ⟨ρ, G, L, M, sr, ?_⟩
  unfold iRg at h
  revert h
  generalize α ρ M = r
  intro h
  cases r with
  | bad => exact h
  | err x M' => exact h
  | ok ds M' =>
    intro vs H' L' n m q
    simp only [Res.bind_ok] at h
    unfold rg1 at h
    split at h
    · split at h
      · rename_i j hj
        cases q with
        | cons q1 q2 =>
        cases q2
        have := q1.int
        subst this
        exact ⟨j, rfl, (smallI_ok hj).1, (smallI_ok hj).2, h _ H' L' n m it_range⟩
      · exact h.elim
    · exact h.elim
theorem id_range2 {a b : Expr} (hg : Gl X "range") (hm : X.mg "range" = none) (hs : starB a = false) (hs2 : starB b = false) (ha : AD X T W α [a, b]) : ID X T W (iRg rg2 α) tg (.Call (.Name "range" p) [a, b] [] pos) := PI.imp (pi_range2 hg hm ha (by rw [star_cons hs, star_cons hs2]; rfl) (by rw [star_cons hs2]; rfl)) fun σ H R h => by
  obtain ⟨ρ, G, L, M, sr, h⟩ := h
  refine ⟨ρ, G, L, M, sr, ?_⟩
  unfold iRg at h
  revert h
  generalize α ρ M = r
  intro h
  cases r with
  | bad => exact h
  | err x M' => exact h
  | ok ds M' =>
    intro vs H' L' n m q
    simp only [Res.bind_ok] at h
    unfold rg2 at h
    split at h
    · split at h
      · rename_i i j hj
        rw [Bool.and_eq_true] at hj
        cases q with
        | cons q1 q2 =>
        cases q2 with
        | cons q2 q3 =>
        cases q3
        have := q1.int
        subst this
        have := q2.int
        subst this
        exact ⟨i, j, rfl, ⟨(smallI_ok hj.1).1, (smallI_ok hj.1).2, (smallI_ok hj.2).1, (smallI_ok hj.2).2⟩, h _ H' L' n m it_range⟩
      · exact h.elim
    · exact h.elim
theorem id_range3 {a b c : Expr} (hg : Gl X "range") (hm : X.mg "range" = none) (hs : starB a = false) (hs2 : starB b = false) (hs3 : starB c = false) (ha : AD X T W α [a, b, c]) : ID X T W (iRg rg3 α) tg (.Call (.Name "range" p) [a, b, c] [] pos) :=
  PI.imp (pi_range3 hg hm ha (star_cons hs) (star_any (by simp [hs2, hs3]))) fun σ H R h => by
  obtain ⟨ρ, G, L, M, sr, h⟩ := h
  refine ⟨ρ, G, L, M, sr, ?_⟩
  unfold iRg at h
  revert h
  generalize α ρ M = r
  intro h
  cases r with
  | bad => exact h
  | err x M' => exact h
  | ok ds M' =>
    intro vs H' L' n m q
    simp only [Res.bind_ok] at h
    unfold rg3 at h
    split at h
    · split at h
      · rename_i i j k hj
        rw [Bool.and_eq_true, Bool.and_eq_true, decide_eq_true_eq] at hj
        obtain ⟨⟨j1, j2⟩, rfl⟩ := hj
        cases q with
        | cons q1 q2 =>
        cases q2 with
        | cons q2 q3 =>
        cases q3 with
        | cons q3 q4 =>
        cases q4
        have := q1.int
        subst this
        have := q2.int
        subst this
        have := q3.int
        subst this
        exact ⟨i, j, -1, _, rfl, RgC.neg (smallI_ok j1).1 (smallI_ok j1).2 (smallI_ok j2).1 (smallI_ok j2).2, h _ H' L' n m it_rangeC⟩
      · exact h.elim
    · exact h.elim
end
end Cb

set_option Elab.async false
set_option linter.all false
set_option maxRecDepth 100000
/-! Cb, part I: list comprehensions. -/
namespace Cb
open PySem PySem.Spec PyProof.Rows L2

/-! ### a thing put out of sight -/
def era (p : Addr) (H : Hp) : Hp := fun a => if a = p then none else H a
theorem era_ne {p a : Addr} {H : Hp} (h : a ≠ p) : era p H a = H a := by unfold era; rw [if_neg h]
theorem era_same {p : Addr} {H : Hp} : era p H p = none := by unfold era; rw [if_pos rfl]
theorem era_some {p a : Addr} {H : Hp} {o : HO} (h : era p H a = some o) : a ≠ p ∧ H a = some o := by
  unfold era at h
  split at h
  · cases h
  · exact ⟨by assumption, h⟩
theorem era_upd {p : Addr} {H : Hp} {o : HO} (h : H p = some o) : upd (era p H) p o = H := by
  funext a
  by_cases e : a = p
  · subst e; rw [upd_same, h]
  · rw [upd_ne e, era_ne e]
theorem era_of_upd {p : Addr} {H : Hp} {o : HO} : era p (upd H p o) = era p H := by
  funext a
  by_cases e : a = p
  · subst e; rw [era_same, era_same]
  · rw [era_ne e, era_ne e, upd_ne e]
theorem era_none {p : Addr} {H : Hp} (h : H p = none) : era p H = H := by
  funext a
  by_cases e : a = p
  · subst e; rw [era_same, h]
  · rw [era_ne e]
abbrev GP (G : Addr → Prop) (p : Addr) : Addr → Prop := fun a => G a ∨ a = p
section
variable {K : PySem.W.Frag} {T : Tb} {H H' : Hp} {G G' : Addr → Prop} {L L' : List Addr} {M M' : Mem} {p : Addr}
theorem Nxt.era (x : Nxt H L M H' L' M') : Nxt (era p H) L M (era p H') L' M' :=
  ⟨x.pre, fun a o h n => by
    obtain ⟨h1, h2⟩ := era_some h
    rw [era_ne h1]; exact x.keep a o h2 n, fun a h => (x.new a h).elim .inl fun q => .inr (by
    unfold Cb.era
    split
    · rfl
    · exact q)⟩
theorem keeps_out : Keeps H (Fbd L M (GP G p)) (era p H) (Fbd L M G) := ⟨fun a o h n => by
  have ne : a ≠ p := fun e => n (.inr (.inr e))
  exact ⟨by rw [era_ne ne]; exact h, fun z => n (z.elim .inl fun g => .inr (.inl g))⟩⟩
theorem keeps_in : Keeps (era p H) (Fbd L M G) H (Fbd L M (GP G p)) := ⟨fun a o h n => by
  obtain ⟨h1, h2⟩ := era_some h
  exact ⟨h2, fun z => z.elim (fun q => n (.inl q)) fun g => g.elim (fun q => n (.inr q)) h1⟩⟩
theorem MR.out (m : MR K H (GP G p) L M) (hg : ¬ G p) : MR K (era p H) G L M := by
  refine ⟨m.len, m.nd, fun a h => ?_, fun a h g => m.ng a h (.inl g), fun a h => ?_, fun n a o h1 h2 h3 => ?_⟩
  · have ne : a ≠ p := fun e => m.ng a h (.inr e)
    rw [era_ne ne]; exact m.tr a h
  · have ne : a ≠ p := fun e => hg (e ▸ h)
    rw [era_ne ne]; exact m.tg a (.inl h)
  · obtain ⟨ho, e, c⟩ := m.at_ n a o h1 h2 h3
    have ne : a ≠ p := fun e => m.ng a (List.mem_of_getElem? h1) (.inr e)
    exact ⟨ho, by rw [era_ne ne]; exact e, c.ext keeps_out⟩
/-- the hidden thing changes -/
theorem keeps_hid {ho : HO} (hg : G p) : Keeps H (Fbd L M G) (upd H p ho) (Fbd L M G) := ⟨fun a o h n => ⟨by rw [upd_ne (fun e => n (.inr (by rw [e]; exact hg)))]; exact h, n⟩⟩
theorem MR.hid {ho : HO} (m : MR K H G L M) (hg : G p) : MR K (upd H p ho) G L M := by
  refine ⟨m.len, m.nd, fun a h => ?_, m.ng, fun a h => ?_, fun n a o h1 h2 h3 => ?_⟩
  · rw [upd_ne (fun e => m.ng a h (by rw [e]; exact hg))]; exact m.tr a h
  · by_cases e : a = p
    · rw [e, upd_same]; exact fun z => nomatch z
    · rw [upd_ne e]; exact m.tg a h
  · obtain ⟨ho', e, c⟩ := m.at_ n a o h1 h2 h3
    exact ⟨ho', by rw [upd_ne (fun e => m.ng a (List.mem_of_getElem? h1) (by rw [e]; exact hg))]; exact e, c.ext (keeps_hid hg)⟩
theorem Nxt.hid_keep (x : Nxt H L M H' L' M') (m : MR K H G L M) (hg : G p) {o : HO} (h : H p = some o) : H' p = some o := x.keep p o h fun z => m.ng p z.mem hg
theorem RD.extE (x : Ext H (Fbd L M G) L H' (Fbd L' M' G') L') {v : V} {d : D} (h : RD K T H G L M v d) : RD K T H' G' L' M' v d := by
  cases h with
  | p h => exact .p (Rp.ext x.1 _ _ h)
  | obj h => exact .obj (x.2 _ _ h)
  | fn id => exact .fn id
  | ty n => exact .ty n
  | frz h r => exact .frz (h.ext x.1) (RpAll.ext x.1 _ _ r)
theorem SR.extE {σ : L2.St} {ρ : Env} (s : SR K T σ H ρ G L M) (x : Ext H (Fbd L M G) L H' (Fbd L' M' G') L') (m : MR K H' G' L' M') : SR K T σ H' ρ G' L' M' :=
  ⟨m, s.len, fun i d h => let ⟨v, h1, h2⟩ := s.env i d h; ⟨v, h1, h2.extE x⟩⟩
end
def wipeE (ρ : Env) : List Nat → Env
  | [] => ρ
  | v :: vs => (wipeE ρ vs).set v none
@[simp] theorem wipeE_nil (ρ : Env) : wipeE ρ [] = ρ := rfl
@[simp] theorem wipeE_cons (ρ : Env) (v : Nat) (vs : List Nat) : wipeE ρ (v :: vs) = (wipeE ρ vs).set v none := rfl
theorem wipe_get {σ : L2.St} {i : Nat} : ∀ {vs : List Nat}, (wipe σ vs)[i]? = if i ∈ vs then (if i < σ.length then some none else none) else σ[i]?
  | [] => by simp [wipe]
  | v :: vs => by
    unfold wipe
    by_cases hi : v = i
    · subst hi
      simp only [List.mem_cons, true_or, if_true]
      by_cases hl : v < σ.length
      · rw [if_pos hl, List.getElem?_set_self (by rw [wipe_length]; exact hl)]
      · rw [if_neg hl, List.getElem?_eq_none (by rw [List.length_set, wipe_length]; omega)]
    · rw [List.getElem?_set_ne hi, wipe_get]
      have : (i ∈ v :: vs) ↔ i ∈ vs := by
        rw [List.mem_cons]
        exact ⟨fun h => h.elim (fun e => absurd e.symm hi) id, .inr⟩
      simp only [this]
theorem wipeE_get {ρ : Env} {i : Nat} : ∀ {vs : List Nat} {x : D}, (wipeE ρ vs)[i]? = some (some x) → ρ[i]? = some (some x) ∧ i ∉ vs
  | [], x, h => ⟨h, by simp⟩
  | v :: vs, x, h => by
    rw [wipeE_cons] at h
    by_cases hi : v = i
    · subst hi
      by_cases hl : v < (wipeE ρ vs).length
      · rw [List.getElem?_set_self hl] at h; cases h
      · rw [List.getElem?_eq_none (by simpa using hl)] at h; cases h
    · rw [List.getElem?_set_ne hi] at h
      obtain ⟨h1, h2⟩ := wipeE_get h
      exact ⟨h1, by simp only [List.mem_cons, not_or]; exact ⟨fun e => hi e.symm, h2⟩⟩
theorem wipeE_length (ρ : Env) : ∀ vs : List Nat, (wipeE ρ vs).length = ρ.length
  | [] => rfl
  | v :: vs => by rw [wipeE_cons, List.length_set, wipeE_length ρ vs]
theorem wipe_agr {σ σ' : L2.St} {vs : List Nat} (a : Agr vs (wipe σ vs) σ') : wipe σ' vs = wipe σ vs := by
  apply List.ext_getElem?
  intro i
  have hl : σ'.length = σ.length := a.1.trans (wipe_length σ vs)
  rw [wipe_get, wipe_get]
  by_cases hi : i ∈ vs
  · rw [if_pos hi, if_pos hi, hl]
  · rw [if_neg hi, if_neg hi]
    have := a.2 i hi
    rw [wipe_get, if_neg hi] at this
    exact this
theorem SR.wipe {K : PySem.W.Frag} {T : Tb} {H : Hp} {G : Addr → Prop} {L : List Addr} {M : Mem} {σ : L2.St} {ρ : Env} (s : SR K T σ H ρ G L M) (vs : List Nat) : SR K T (L2.wipe σ vs) H (wipeE ρ vs) G L M := by
  refine ⟨s.mr, by rw [wipe_length, wipeE_length, s.len], fun i x h => ?_⟩
  obtain ⟨h1, h2⟩ := wipeE_get h
  obtain ⟨v, h3, h4⟩ := s.env i x h1
  exact ⟨v, by rw [wipe_get, if_neg h2]; exact h3, h4⟩

/-- no exception may leave -/
def ne {α : Type} : Res α → Res α
  | .ok a M => .ok a M
  | _ => .bad
@[simp] theorem ne_ok {α : Type} (a : α) (M : Mem) : ne (.ok a M) = .ok a M := rfl
@[simp] theorem ne_err {α : Type} (x : Xc) (M : Mem) : ne (.err x M : Res α) = .bad := rfl
@[simp] theorem ne_bad {α : Type} : ne (.bad : Res α) = .bad := rfl
def lcL (step : Stp) (γ : GFn) (t : TFn) (φ : PFn) (vs : List Nat) : Nat → Nat → List P → Env → Mem → Res Ev
  | 0, _, _, _, _ => .bad
  | f + 1, i, acc, ρ, M => match step i M with
    | none => .bad
    | some none => .ok (.new (.lst acc)) M
    | some (some x) => match γ x (wipeE ρ vs) with
      | none => .bad
      | some ρ1 => (ne (t ρ1 M)).bind fun b M1 => if b = true then (ne (stl (φ ρ1 M1))).bind fun d M2 => match pur d M2 with
            | some (y, M3) => if acc.length < sizeLine then lcL step γ t φ vs f (i + 1) (acc ++ [y]) ρ M3 else .bad
            | none => .bad
          else lcL step γ t φ vs f (i + 1) acc ρ M1
def eLc (ι : IFn) (γ : GFn) (t : TFn) (φ : PFn) (vs : List Nat) : PFn := fun ρ M => (ι ρ M).bind fun st M1 => lcL st γ t φ vs FUEL 0 [] ρ M1
def tTrue : TFn := fun _ M => .ok true M
def Wn : WX := fun _ _ _ _ => False
theorem Post.of {K : PySem.W.Frag} {T : Tb} {H : Hp} {G : Addr → Prop} {L : List Addr} {M : Mem} {r : Res Ev} {Q : VK} {E : XK} (hb : ne (stl r) ≠ .bad) (h : ∀ d M' v H' L', stl r = .ok d M' → Nxt H L M H' L' M' → MR K H' G L' M' → RD K T H' G L' M' v d → Q v H') : Post K T H G L M r Q E := by
  cases r with
  | ok e M' =>
    cases e with
    | d y => exact fun v H' L' n m q => h y M' v H' L' rfl n m q
    | new o =>
      intro p ho H' L' hp n m c
      exact h (.p o.toP) M' _ _ L' rfl (n.trans (Nxt.fresh hp)) (m.fresh hp) (.p (c.rp m hp))
  | err y M' => exact absurd rfl hb
  | bad => exact absurd rfl hb
section
variable {X : Cx} {T : Tb} {W : WX} {U : List Nat} {ι : IFn} {γ : GFn} {t : TFn} {φ : PFn} {vs : List Nat}
theorem PostI.bind {K : PySem.W.Frag} {H : Hp} {G : Addr → Prop} {L : List Addr} {M : Mem} {r : Res Stp} {k : Stp → Mem → Res Ev} {Q : VK} {E : XK} (h : Post K T H G L M (r.bind k) Q E) :
    PostI K T H G L M r (fun J H1 => ∃ st L1 M1, Nxt H L M H1 L1 M1 ∧ MR K H1 G L1 M1 ∧ ItOk K H1 (Fbd L1 M1 G) L1 J st ∧ Post K T H1 G L1 M1 (k st M1) Q E) E := by
  cases r with
  | ok st M' => exact fun J H' L' n m q => ⟨st, L', M', n, m, q, h.start n⟩
  | err y M' => exact h
  | bad => exact h
theorem lc_go {σ : L2.St} {H : Hp} {Q : VK} (h : tE X T W (eLc ι γ t φ vs) σ H Q) : tLc (tI X T W ι) (tG X T vs γ) (tT X T Wn t) (tE X T Wn φ) vs σ H Q := by
  obtain ⟨ρ, G, L, M, sr, h⟩ := h
  refine ⟨ρ, G, L, M, sr, ?_⟩
  have h1 := PostI.bind h
  revert h1
  generalize ι ρ M = r
  intro h1
  cases r with
  | bad => exact h1
  | err x M' => exact h1
  | ok st0 M0 =>
    intro J H1 L0 n0 m0 io0 D hD
    obtain ⟨st, L1, M1, n1, m1, io, h2⟩ := h1 J H1 L0 n0 m0 io0
    have s1 := sr.ext n1 m1
    have hGD : ¬ G D := fun g => m1.tg D g hD
    refine ⟨fun i f H' => ∃ Ls Ms acc accV, H' D = some (.lst accV) ∧ RpAll X.K H' (Fbd Ls Ms (GP G D)) accV acc ∧ MR X.K H' (GP G D) Ls Ms ∧ Nxt H1 L1 M1 (era D H') Ls Ms ∧
      Post X.K T (era D H') G Ls Ms (lcL st γ t φ vs f i acc ρ Ms) Q (fun cls d H' => W cls d σ H'), ⟨FUEL, L1, M1, [], [], upd_same, .nil, m1.hide hD, ?_, ?_⟩, ?_⟩
    · rw [era_of_upd, era_none hD]; exact Nxt.refl
    · rw [era_of_upd, era_none hD]; exact h2
    rintro i f H' ⟨Ls, Ms, acc, accV, hDH, ra, ms, ns, p⟩
    have ex : Ext H1 (Fbd L1 M1 G) L1 H' (Fbd Ls Ms (GP G D)) Ls := ns.ext.trans ⟨keeps_in, fun _ _ z => z⟩
    cases f with
    | zero => exact False.elim p
    | succ f =>
      unfold lcL at p
      split at p
      · exact False.elim p
      · rename_i e
        refine .inl ⟨io.stop i H' _ Ls Ms ex ms e, ?_⟩
        have := p D (.lst accV) (era D H') Ls era_same Nxt.refl (ms.out hGD) (.lst (RpAll.ext keeps_out _ _ ra))
        rw [era_upd hDH] at this
        exact this
      · rename_i x e
        obtain ⟨go, yl⟩ := io.go i H' _ Ls Ms x ex ms e
        split at p
        · exact False.elim p
        · rename_i ρ1 eγ
          -- what a turn is to reach
          refine .inr ⟨go, fun H3 => ∃ Ls Ms acc accV, H3 D = some (.lst accV) ∧ RpAll X.K H3 (Fbd Ls Ms (GP G D)) accV acc ∧ MR X.K H3 (GP G D) Ls Ms ∧ Nxt H1 L1 M1 (era D H3) Ls Ms ∧
            Post X.K T (era D H3) G Ls Ms (lcL st γ t φ vs f (i + 1) acc ρ Ms) Q (fun cls d H' => W cls d σ H'), fun H3 w => ⟨f, Nat.lt_succ_self _, w⟩, fun v H2 y => ?_⟩
          obtain ⟨hH, rx⟩ := yl v H2 y
          have n2 : Nxt H' Ls Ms H2 Ls Ms := by
            rcases hH with rfl | ⟨pa, ho', hp, rfl⟩
            · exact Nxt.refl
            · exact Nxt.fresh hp
          have m2 : MR X.K H2 (GP G D) Ls Ms := by
            rcases hH with rfl | ⟨pa, ho', hp, rfl⟩
            · exact ms
            · exact ms.fresh hp
          have hD2 : H2 D = some (.lst accV) := n2.hid_keep ms (.inr rfl) hDH
          have sB : SR X.K T (wipe σ vs) H2 (wipeE ρ vs) (GP G D) Ls Ms := (s1.extE (ex.trans n2.ext) m2).wipe vs
          refine ⟨wipeE ρ vs, ρ1, GP G D, Ls, Ms, x, sB, rx, eγ, fun σ2 s2 a2 => ⟨wipe_agr a2, ρ1, GP G D, Ls, Ms, s2, ?_⟩⟩
          revert p
          generalize t ρ1 Ms = rt
          intro p
          cases rt with
          | bad => exact False.elim p
          | err z Mz => exact False.elim p
          | ok b M3 =>
            simp only [ne_ok, Res.bind_ok] at p
            intro H3 L3 n3 m3
            have n23 := n2.trans n3
            have hD3 : H3 D = some (.lst accV) := n3.hid_keep m2 (.inr rfl) hD2
            have ra3 := RpAll.ext n23.keeps _ _ ra
            have ne3 : Nxt (era D H') Ls Ms (era D H3) L3 M3 := n23.era
            cases b with
            | false => exact ⟨L3, M3, acc, accV, hD3, ra3, m3, ns.trans ne3, Post.start ne3 p⟩
            | true =>
              simp only [if_true] at p
              refine ⟨ρ1, GP G D, L3, M3, s2.ext n3 m3, Post.of (fun eb => ?_) fun d M4 w H4 L4 es n4 m4 rw4 => ?_⟩
              · rw [eb] at p; exact False.elim p
              · rw [es] at p
                simp only [ne_ok, Res.bind_ok] at p
                split at p
                · rename_i y' M5 ep
                  split at p
                  · rename_i hz
                    obtain ⟨n5, m5, q5⟩ := pur_ok m4 rw4 ep
                    have n45 := n4.trans n5
                    have hD4 : H4 D = some (.lst accV) := n4.hid_keep m3 (.inr rfl) hD3
                    have ra5 := RpAll.ext n45.keeps _ _ ra3
                    have ne5 : Nxt (era D H') Ls Ms (era D (upd H4 D (.lst (accV ++ [w])))) L4 M5 := by
                      rw [era_of_upd]; exact ne3.trans n45.era
                    refine ⟨accV, hD4, by rw [ra5.length]; exact hz, L4, M5, acc ++ [y'], accV ++ [w], upd_same, ?_, m5.hid (.inr rfl), ns.trans ne5, Post.start ne5 p⟩
                    exact RpAll.ext (keeps_hid (.inr rfl)) _ _ (ra5.append (.cons q5 .nil))
                  · exact False.elim p
                · exact False.elim p
end
section
variable {X : Cx} {T : Tb} {W : WX} {U : List Nat} {ι : IFn} {γ : GFn} {t : TFn} {φ : PFn} {elt tg iter c0 : Expr} {ifs : List Expr} {scope : Scope} {own : List (Str × Nat)} {pos spos : Pos}
theorem ptsd_nil : PTs X [] (tT X T Wn tTrue) := ⟨fun pins s σ H Q I h => by
  obtain ⟨ρ, G, L, M, sr, h⟩ := h
  exact pts_nil.run pins s σ H Q I (h H L Nxt.refl sr.mr)⟩
theorem pd_lc (c : XOk X) (hi : ID X T W ι tg iter) (ok : BlkOk X.N X.env.scope scope own)
    (hg : ∀ (s : Shared) (H : Hp) (C : Addr) (cl : List (Str × Addr)) (fp : List Addr), GD (X.blk s H scope (compEnvC scope cl C X.env) fp) T (own.map (·.2)) γ tg)
    (ht : ∀ (s : Shared) (H : Hp) (C : Addr) (cl : List (Str × Addr)) (fp : List Addr), PTs (X.blk s H scope (compEnvC scope cl C X.env) fp) ifs (tT X T Wn t))
    (he : ∀ (s : Shared) (H : Hp) (C : Addr) (cl : List (Str × Addr)) (fp : List Addr), PD (X.blk s H scope (compEnvC scope cl C X.env) fp) T Wn φ elt) (hs : ∀ x, foldedSetIterable iter X.env x = pure x) :
    PD X T W (eLc ι γ t φ (own.map (·.2))) (.ListComp elt [⟨tg, iter, ifs, 0⟩] scope pos) :=
  PE.imp (pe_lc (g := tG X T (own.map fun p : Str × Nat => p.2) γ) (tt := tT X T Wn t) (te := tE X T Wn φ) c.calm c.nd hi ok hg ht he hs) fun σ H Q h => lc_go h
theorem sd_setLc {i : Nat} {y : Str} {py : Pos} {ψ : PFn} (c : XOk X) (hu : i ∈ U) (hψ : ψ = eLc ι γ t φ (own.map (·.2)) ∨ ψ = eAl (eLc ι γ t φ (own.map (·.2)))) (hy : X.N[i]? = some y) (hyl : X.env.scope.names.lookup y = some .local)
    (hsw : swapsWith (.ListComp elt [⟨tg, iter, ifs, 0⟩] scope pos) (some (.Name y py)) spos.line X.env = pure true) (hi : ID X T W ι tg iter) (ok : BlkOk X.N X.env.scope scope own)
    (hg : ∀ (s : Shared) (H : Hp) (C : Addr) (cl : List (Str × Addr)) (fp : List Addr), GD (X.blk s H scope (compEnvC scope cl C X.env) fp) T (own.map (·.2)) γ tg)
    (ht : ∀ (s : Shared) (H : Hp) (C : Addr) (cl : List (Str × Addr)) (fp : List Addr), PTs (X.blk s H scope (compEnvC scope cl C X.env) fp) ifs (tT X T Wn t))
    (he : ∀ (s : Shared) (H : Hp) (C : Addr) (cl : List (Str × Addr)) (fp : List Addr), PD (X.blk s H scope (compEnvC scope cl C X.env) fp) T Wn φ elt) (hs : ∀ x, foldedSetIterable iter X.env x = pure x) :
    SD X T W U (sSet i ψ) (.Assign [.Name y py] (.ListComp elt [⟨tg, iter, ifs, 0⟩] scope pos) spos) :=
  PS.imp' (ps_setLc (g := tG X T (own.map fun p : Str × Nat => p.2) γ) (tt := tT X T Wn t) (te := tE X T Wn φ) c.calm c.nd hy hyl hsw hi ok hg ht he hs) fun D σ H h => by
    obtain ⟨ρ, G, L, M, sr, h⟩ := h
    have h2 := set_go hu sr h
    rcases hψ with rfl | rfl
    · exact lc_go ⟨ρ, G, L, M, sr, h2⟩
    · exact lc_go ⟨ρ, G, L, M, sr, Post.alloc h2⟩
end
end Cb

set_option Elab.async false
set_option linter.all false
set_option maxRecDepth 100000
/-! Cb, part J: defs and their calls. -/
namespace Cb
open PySem PySem.Spec PyProof.Rows L2

/-- the program's surroundings -/
structure Wd where
  P : Program
  w : World
  K : PySem.W.Frag
  mg : Str → Option Value
  base : Heap
  T : Tb
structure RoomG (k : Nat) (A : Around) : Prop where
  room : Room k A
  g : A.guards = some []
theorem RoomG.deeper {k : Nat} {A : Around} (r : RoomG (k + 1) A) (env : PySem.Env) : RoomG k (A.deeper env) := ⟨r.room.deeper env, r.g⟩
/-- a context of that program; k: how deep calls may go -/
structure Gd (Z : Wd) (k : Nat) (N : List Str) (sc : Scope) (X : Cx) (W : WX) : Prop where
  hP : X.prog = Z.P
  hw : X.w = Z.w
  hK : X.K = Z.K
  hm : X.mg = Z.mg
  hb : X.base = Z.base
  hN : X.N = N
  hs : X.env.scope = sc
  ok : XOk X
  room : RoomG k X.A
  takes : Takes X W
/-- .. where statements run -/
structure Gs (Z : Wd) (k : Nat) (N : List Str) (sc : Scope) (X : Cx) (W : WX) : Prop extends Gd Z k N sc X W where
  pass : PassesOwn (model X.prog X.w) X.A X.env X.xe
  fn : ∀ x, X.fn x = true
  stk : X.stack = X.env :: X.outer
  frm : X.env.frame = some X.env.locals
  ex : X.ex = []
  kind : X.env.scope.kind = .function

/-- a def's promise -/
def FnG (Z : Wd) (k : Nat) (f : Addr) (fd : FuncData) (ps : List Str) (fs : FS) : Prop :=
  ∀ (A : Around) (outer : List PySem.Env) (s : Shared) (H : Hp) (args : Args) (vs : List V) (us : List Value) (ds : List D) (G : Addr → Prop) (L : List Addr) (M : Mem) (Q : VK) (E : XK), RoomG k A → Env0 Z.P Z.w Z.K Z.mg Z.base A outer s H → BindsTo s fd args (ps.zip us) → Vals vs us → vs.length = ps.length →
    MR Z.K H G L M → RDs Z.K Z.T H G L M vs ds → Post Z.K Z.T H G L M (fs ds M) Q E → codeAny (model Z.P Z.w) A (.call (.ref f) args) (CR (L2.CX Z.P Z.w) outer Z.P Z.w H s Q E) s
def startE (n : Nat) (ds : List D) : Env := ds.map some ++ List.replicate (n - ds.length) none
/-- a body's end as the def's -/
def fin (n : Nat) : Res Out → Res Ev
  | .ok (.nx _) M => .ok (.d (.p .none)) (M.take n)
  | .ok (.rt (.d (.obj j))) M => if j < n then .ok (.d (.obj j)) (M.take n) else match M[j]? with
    | some (.lst xs) => .ok (.new (.lst xs)) (M.take n)
    | some (.dct kvs) => .ok (.new (.dct kvs)) (M.take n)
    | _ => .bad
  | .ok (.rt (.d x)) M => .ok (.d x) (M.take n)
  | .ok (.rt (.new o)) M => .ok (.new o) (M.take n)
  | .err x M => .err x (M.take n)
  | _ => .bad
def defF (n : Nat) (φ : SFn) : FS := fun ds M => fin M.length (φ (startE n ds) M)
section
variable {K : PySem.W.Frag} {T : Tb} {H H' : Hp} {G : Addr → Prop} {L L' : List Addr} {M M' : Mem} {σ : L2.St} {U : List Nat} {Q : VK} {E : XK}
theorem keepsTo (x : Nxt H L M H' L' M') (hl : L.length = M.length) : Keeps H' (Fbd L' M' G) H' (Fbd L (M'.take M.length) G) := by
  obtain ⟨R, e⟩ := x.pre
  have := keeps_take (H := H') (G := G) (L := L') (M := M') (k := M.length)
  rw [e, List.take_append_of_le_length (by omega), ← hl, List.take_length] at this
  rw [← hl, e]; exact this
theorem XR.ext {H H' : Hp} {F F' : Addr → Prop} (k : Keeps H F H' F') {x : Xc} {cls : Value} {d : Option Addr} (h : XR K T H F x cls d) : XR K T H' F' x cls d := by
  obtain ⟨h1, h2⟩ := h
  refine ⟨h1, ?_⟩
  split at h2
  · exact h2
  · obtain ⟨b, us, e1, e2, e3, e4⟩ := h2
    exact ⟨b, us, e1, (k.keep b _ e2 e3).1, (k.keep b _ e2 e3).2, Paired.mapP e4 fun _ _ r => ⟨r.1, Rp.ext k _ _ r.2⟩⟩
theorem RD.takeTo (x : Nxt H L M H' L' M') (hl : L.length = M.length) {v : V} {d : D} (hd : ∀ j, d = .obj j → j < M.length) (r : RD K T H' G L' M' v d) : RD K T H' G L (M'.take M.length) v d := by
  cases r with
  | p h => exact .p (Rp.ext (keepsTo x hl) _ _ h)
  | @obj j a h =>
    obtain ⟨R, e⟩ := x.pre
    have hj := hd j rfl
    rw [e, List.getElem?_append_left (by omega)] at h
    exact .obj h
  | fn id => exact .fn id
  | ty n => exact .ty n
  | frz h r => exact .frz (h.ext (keepsTo x hl)) (RpAll.ext (keepsTo x hl) _ _ r)
/-- an object made within the call is handed out as a new thing -/
theorem out_new (x : Nxt H L M H' L' M') (m0 : MR K H G L M) (m : MR K H' G L' M') {j : Nat} {a : Addr} {o : MObj} (ha : L'[j]? = some a) (hj : M.length ≤ j) (hm : M'[j]? = some o) (ho : o.alive = true) :
    ∃ hob, H' a = some hob ∧ era a H' a = none ∧ Nxt H L M (era a H') L (M'.take M.length) ∧ MR K (era a H') G L (M'.take M.length) ∧ MC K (era a H') (Fbd L (M'.take M.length) G) hob o := by
  obtain ⟨hob, e, c⟩ := m.at_ j a o ha hm ho
  have lv : Lv L' M' a := ⟨j, o, ha, hm, ho⟩
  have hnL : a ∉ L := fun hmem => by
    obtain ⟨i, hi⟩ := List.mem_iff_getElem?.mp hmem
    have := nodup_get m.nd ha (x.get hi)
    have := (List.getElem?_eq_some_iff.mp hi).1
    have := m0.len
    omega
  have hHa : H a = none := by
    rcases x.new a lv with q | q
    · exact absurd q.mem hnL
    · exact q
  have xt := x.take m0.len
  have mt := MR.takeTo x m0.len m
  have kt : Keeps H' (Fbd L' M' G) (era a H') (Fbd L (M'.take M.length) G) := ⟨fun b ob h n => by
    have ne : b ≠ a := fun e => n (.inl (by rw [e]; exact lv))
    obtain ⟨h1, h2⟩ := (keepsTo x m0.len).keep b ob h n
    exact ⟨by rw [era_ne ne]; exact h1, h2⟩⟩
  refine ⟨hob, e, era_same, ⟨xt.pre, fun b ob h n => ?_, xt.new⟩, ?_, c.ext kt⟩
  · have ne : b ≠ a := fun e => by rw [e, hHa] at h; cases h
    rw [era_ne ne]; exact xt.keep b ob h n
  · refine ⟨mt.len, mt.nd, fun b h => ?_, mt.ng, fun b h => ?_, fun n b ob h1 h2 h3 => ?_⟩
    · have ne : b ≠ a := fun e => hnL (by rw [← e]; exact h)
      rw [era_ne ne]; exact mt.tr b h
    · have ne : b ≠ a := fun e => m.ng a (List.mem_of_getElem? ha) (by rw [← e]; exact h)
      rw [era_ne ne]; exact mt.tg b h
    · have ne : b ≠ a := fun e => hnL (by rw [← e]; exact List.mem_of_getElem? h1)
      have hn : n < M.length := by rw [← m0.len]; exact (List.getElem?_eq_some_iff.mp h1).1
      rw [List.getElem?_take_of_lt hn] at h2
      obtain ⟨hb', e1, c1⟩ := m.at_ n b ob (x.get h1) h2 h3
      exact ⟨hb', by rw [era_ne ne]; exact e1, c1.ext kt⟩
theorem fin_post {r : Res Out} (m0 : MR K H G L M) (h : Post K T H G L M (fin M.length r) Q E) : PostS K T U σ H G L M r { nx := fun _ H' => Q .non H', rt := Q } (fun cls d _ H' => E cls d H') := by
  cases r with
  | bad => exact h
  | err x M' => exact fun cls d σ' H' L' n m q _ => h cls d H' L (n.take m0.len) (MR.takeTo n m0.len m) (q.ext (keepsTo n m0.len))
  | ok o M' =>
    cases o with
    | nx ρ => exact fun σ' H' L' n s _ => h .non H' L (n.take m0.len) (MR.takeTo n m0.len s.mr) (.p .non)
    | bk ρ => exact h.elim
    | ct ρ => exact h.elim
    | rt e =>
      cases e with
      | new o => exact fun p ho H' L' hp n m c => h p ho H' L hp (n.take m0.len) (MR.takeTo n m0.len m) (c.ext (keepsTo n m0.len))
      | d x =>
        have easy : (∀ j, x = .obj j → j < M.length) → Post K T H G L M (.ok (.d x) (M'.take M.length)) Q E → Post K T H G L M (.ok (.d x) M') Q never := fun hd h v H' L' n m r => h v H' L (n.take m0.len) (MR.takeTo n m0.len m) (r.takeTo n m0.len hd)
        cases x with
        | p d => exact easy (fun j e => by cases e) h
        | fn d => exact easy (fun j e => by cases e) h
        | ty d => exact easy (fun j e => by cases e) h
        | frz d => exact easy (fun j e => by cases e) h
        | obj j =>
          by_cases hj : j < M.length
          · simp only [fin, if_pos hj] at h
            exact easy (fun i e => by cases e; exact hj) h
          · simp only [fin, if_neg hj] at h
            have hj' : M.length ≤ j := Nat.le_of_not_lt hj
            split at h
            · rename_i xs e
              intro v H' L' n m r
              cases r with
              | obj ha =>
                obtain ⟨hob, e1, e2, n2, m2, c2⟩ := out_new n m0 m ha hj' e rfl
                have := h _ hob _ L e2 n2 m2 c2
                rw [era_upd e1] at this
                exact this
            · rename_i xs e
              intro v H' L' n m r
              cases r with
              | obj ha =>
                obtain ⟨hob, e1, e2, n2, m2, c2⟩ := out_new n m0 m ha hj' e rfl
                have := h _ hob _ L e2 n2 m2 c2
                rw [era_upd e1] at this
                exact this
            · exact h.elim
end
theorem sr_start {K : PySem.W.Frag} {T : Tb} {H : Hp} {G : Addr → Prop} {L : List Addr} {M : Mem} {N : List Str} {vs : List V} {ds : List D} (m : MR K H G L M) (r : RDs K T H G L M vs ds) : SR K T (L2.start N vs) H (startE N.length ds) G L M := by
  have hl : vs.length = ds.length := r.length
  refine ⟨m, by unfold startE L2.start; simp [hl], fun i x h => ?_⟩
  unfold startE at h
  by_cases hi : i < ds.length
  · rw [List.getElem?_append_left (by simpa using hi), List.getElem?_map] at h
    cases e : ds[i]? with
    | none => rw [e] at h; cases h
    | some d =>
      rw [e] at h
      cases h
      have hv : i < vs.length := by omega
      obtain ⟨v, h1, h2⟩ : ∃ v, vs[i]? = some v ∧ RD K T H G L M v x := by
        clear hl hi hv
        induction r generalizing i with
        | nil => simp at e
        | @cons a b as bs ha has ih =>
          cases i with
          | zero => simp at e; subst e; exact ⟨_, rfl, ha⟩
          | succ i =>
            obtain ⟨v, q1, q2⟩ := ih (i := i) (by simpa using e)
            exact ⟨v, by simpa using q1, q2⟩
      refine ⟨v, ?_, h2⟩
      unfold L2.start
      rw [List.getElem?_append_left (by simpa using hv), List.getElem?_map, h1]
      rfl
  · rw [List.getElem?_append_right (by simpa using hi), List.getElem?_replicate] at h
    split at h <;> cases h
abbrev WE (E : XK) : WX := fun cls d _ H => E cls d H
section
variable {Z : Wd} {k : Nat} {f : Addr} {name qual : Str} {params : Arguments} {body : List Stmt} {scope : Scope} {dV kV doc pm cdv ct oc : Value} {an od : Option Addr} {osl : Array (Option Value)} {N ps : List Str} {φ : SFn} {U : List Nat}
/-- a def keeps its promise -/
theorem fng_of (lk : Z.K.lookup f = some ⟨oc, od, .func (PySem.W.fnOf name qual params body scope dV kV doc pm an cdv ct), osl⟩) (hcd : PySem.W.codeIn Z.K cdv qual = true) (S : FnScope N ps scope)
    (hbody : ∀ X E, Gs Z k N scope X (WE E) → BD X Z.T (WE E) U φ body) : FnG Z (k + 1) f (PySem.W.fnOf name qual params body scope dV kV doc pm an cdv ct) ps (defF N.length φ) := by
  intro A outer s H args vs us ds G L M Q E hr e0 hb r hl m rds hq
  refine StX.run_bnd lk hcd S hr.room e0 (G := fun xs H2 => xs = vs ∧ H2 = H) (fun A' Ex Q' h => hb _ _ _ _ ?_) fun s2 H2 xs ⟨ex, eH⟩ hr' => ?_
  · exact h s H vs us e0 Un.refl rfl (fun _ _ z => z) r hl ⟨rfl, rfl⟩
  · subst ex eH
    refine ⟨_, hbody (cxOf (L2.CX Z.P Z.w) Z.P Z.w Z.K Z.mg Z.base N qual scope f cdv A outer s2 H2 E) E ⟨⟨rfl, rfl, rfl, rfl, rfl, rfl, rfl, ⟨rfl, S.nd, ?_, hr.g⟩, ⟨hr', hr.g⟩, takes_of rfl rfl rfl rfl⟩, passes_of rfl, fun _ => rfl, rfl, rfl, rfl, S.kind⟩, startE N.length ds, G, L, M, sr_start m rds, fin_post m hq⟩
    have := hr'.un
    show (A.deeper _).units + 200 < cLine
    omega
end

/-! ### calls -/
/-- where a parameter's value comes from: the i-th written one, or a default -/
inductive Src where
  | at (i : Nat)
  | df (j : Nat) (d : P)
def planD : List Src → List D → Option (List D)
  | [], _ => some []
  | .at i :: r, ds => match ds[i]?, planD r ds with
    | some x, some xs => some (x :: xs)
    | _, _ => none
  | .df _ d :: r, ds => (planD r ds).map (D.p d :: ·)
def planU (its us : List Value) : List Src → List Value
  | [] => []
  | .at i :: r => us.getD i .none :: planU its us r
  | .df j _ :: r => its.getD j .none :: planU its us r
/-- how a call with n written values and keywords named ks binds -/
structure BindsG (K : PySem.W.Frag) (fd : FuncData) (ps : List Str) (n : Nat) (ks : List Str) (plan : List Src) : Prop where
  len : plan.length = ps.length
  ex : ∃ its : List Value, (∀ j d, Src.df j d ∈ plan → ∃ v u, its[j]? = some u ∧ RelV v u ∧ ∀ H Fb, Rp K H Fb v d) ∧
    ∀ (s : Shared) (us ws : List Value), K.In s.heap → us.length = n → ws.length = ks.length → BindsTo s fd ⟨us, ks.zip ws⟩ (ps.zip (planU its (us ++ ws) plan))
theorem RDs.app {K : PySem.W.Frag} {T : Tb} {H : Hp} {G : Addr → Prop} {L : List Addr} {M : Mem} : ∀ {vs us : List V} {ds es : List D}, RDs K T H G L M vs ds → RDs K T H G L M us es → RDs K T H G L M (vs ++ us) (ds ++ es)
  | _, _, _, _, .nil, r => r
  | _, _, _, _, .cons h t, r => .cons h (RDs.app t r)
theorem plan_ok {K : PySem.W.Frag} {T : Tb} {H : Hp} {G : Addr → Prop} {L : List Addr} {M : Mem} {its us : List Value} {vs : List V} {ds : List D} (rv : Vals vs us) (rd : RDs K T H G L M vs ds) : ∀ {plan : List Src} {bs : List D},
    (∀ j d, Src.df j d ∈ plan → ∃ v u, its[j]? = some u ∧ RelV v u ∧ ∀ H Fb, Rp K H Fb v d) → planD plan ds = some bs → ∃ xs, Vals xs (planU its us plan) ∧ RDs K T H G L M xs bs ∧ xs.length = plan.length
  | [], bs, _, e => by cases e; exact ⟨[], .nil, .nil, rfl⟩
  | .at i :: r, bs, hd, e => by
    unfold planD at e
    split at e
    · rename_i x xs e1 e2
      cases e
      obtain ⟨ys, h1, h2, h3⟩ := plan_ok rv rd (fun j d hm => hd j d (List.mem_cons_of_mem _ hm)) e2
      obtain ⟨v, q1, q2⟩ : ∃ v, vs[i]? = some v ∧ RD K T H G L M v x := by
        clear rv h1 h2 h3 e2 hd
        induction rd generalizing i with
        | nil => simp at e1
        | @cons a b as bs ha has ih =>
          cases i with
          | zero => simp at e1; subst e1; exact ⟨_, rfl, ha⟩
          | succ i =>
            obtain ⟨v, q1, q2⟩ := ih (i := i) (by simpa using e1)
            exact ⟨v, by simpa using q1, q2⟩
      obtain ⟨u, q3, q4⟩ := rv.get q1
      refine ⟨v :: ys, .cons ?_ h1, .cons q2 h2, by simp [h3]⟩
      rw [List.getD_eq_getElem?_getD, q3]
      exact q4
    · cases e
  | .df j d :: r, bs, hd, e => by
    unfold planD at e
    cases e2 : planD r ds with
    | none => rw [e2] at e; cases e
    | some xs =>
      rw [e2] at e
      cases e
      obtain ⟨ys, h1, h2, h3⟩ := plan_ok rv rd (fun j d hm => hd j d (List.mem_cons_of_mem _ hm)) e2
      obtain ⟨v, u, q1, q2, q3⟩ := hd j d List.mem_cons_self
      refine ⟨v :: ys, .cons ?_ h1, .cons (.p (q3 _ _)) h2, by simp [h3]⟩
      rw [List.getD_eq_getElem?_getD, q1]
      exact q2
/-- the keywords' values -/
def KD (X : Cx) (T : Tb) (W : WX) (β : AFn) (kws : List Keyword) : Prop := PK X kws (tA X T W β)
theorem PK.imp {X : Cx} {kws : List Keyword} {t t' : TA} (h : PK X kws t) (i : ∀ σ H Q, t' σ H Q → t σ H Q) : PK X kws t' := ⟨fun pos pins s σ H Q I q => h.run pos pins s σ H Q I (i σ H Q q)⟩
section
variable {X : Cx} {T : Tb} {W : WX} {e : Expr} {es : List Expr} {kws : List Keyword} {φ : PFn} {α β : AFn} {pos p kpos : Pos} {nm : Option Str}
theorem kd_nil : KD X T W aNil [] := PK.imp pk_nil fun σ H Q h => by
  obtain ⟨ρ, G, L, M, sr, h⟩ := h
  exact h [] H L Nxt.refl sr.mr .nil
theorem kd_cons (he : PD X T W φ e) (hr : KD X T W β kws) : KD X T W (aCons φ β) (⟨nm, e, kpos⟩ :: kws) := PK.imp (pk_cons he hr) fun σ H Q h => by
  obtain ⟨ρ, G, L, M, sr, h⟩ := h
  refine ⟨ρ, G, L, M, sr, (Post.bindA h).mono fun v H1 ⟨x, L1, M1, n1, m1, r1, h1⟩ => ?_⟩
  refine ⟨ρ, G, L1, M1, sr.ext n1 m1, (PostA.bindA h1).mono fun us H2 ⟨ds, L2, M2, n2, m2, r2, h2⟩ => ?_⟩
  exact h2 _ H2 L2 Nxt.refl m2 (.cons (r1.ext n2) r2)
end
def eCallU (fs : FS) (n m : Nat) (plan : List Src) (α β : AFn) : PFn := fun ρ M => (α ρ M).bind fun ds M1 => (β ρ M1).bind fun es M2 => if ds.length = n ∧ es.length = m then match planD plan (ds ++ es) with
    | some bs => fs bs M2
    | none => .bad
  else .bad
def kwNames (kws : List Keyword) : List Str := kws.filterMap (·.arg)
theorem kw_names {env : PySem.Env} {pos : Pos} : ∀ {kws : List Keyword}, (backToKw pos (keywordEach kws env)).filterMap (·.1) = kwNames kws
  | [] => rfl
  | ⟨n, v, q⟩ :: r => by
    have ih := @kw_names env pos r
    show ((n, _) :: backToKw pos (keywordEach r env)).filterMap (·.1) = (⟨n, v, q⟩ :: r : List Keyword).filterMap (·.arg)
    rw [List.filterMap_cons, List.filterMap_cons, ih]
    rfl
theorem kw_all {env : PySem.Env} {pos : Pos} : ∀ {kws : List Keyword}, kws.all (·.arg.isSome) = true → (backToKw pos (keywordEach kws env)).all (·.1.isSome) = true
  | [], _ => rfl
  | ⟨n, v, q⟩ :: r, h => by
    rw [List.all_cons, Bool.and_eq_true] at h
    show ((n, _) :: backToKw pos (keywordEach r env)).all (·.1.isSome) = true
    rw [List.all_cons, Bool.and_eq_true]
    exact ⟨h.1, kw_all h.2⟩
theorem kw_any {env : PySem.Env} {pos : Pos} : ∀ {kws : List Keyword}, kws.all (·.arg.isSome) = true → (backToKw pos (keywordEach kws env)).any (·.1.isNone) = false
  | [], _ => rfl
  | ⟨n, v, q⟩ :: r, h => by
    rw [List.all_cons, Bool.and_eq_true] at h
    show ((n, _) :: backToKw pos (keywordEach r env)).any (·.1.isNone) = false
    rw [List.any_cons, kw_any h.2, Bool.or_false]
    cases n with
    | none => cases h.1
    | some n => rfl
section
variable {Z : Wd} {k : Nat} {N : List Str} {sc : Scope} {X : Cx} {W : WX} {f : Addr} {fd : FuncData} {ps : List Str} {fs : FS} {n : Nat} {plan : List Src} {e : Expr} {es : List Expr} {kws : List Keyword} {φ : PFn} {α β : AFn} {pos p : Pos} {x : Str}
/-- the callee runs -/
theorem callU_run {ks : List Str} (g : Gd Z k N sc X W) (F : FnG Z k f fd ps fs) (B : BindsG Z.K fd ps n ks plan) {pins : List (Addr × Obj)} {s : Shared} {σ : L2.St} {H : Hp} {Q : VK} {G : Addr → Prop} {L : List Addr} {M : Mem} {vs zs : List V} {us ws : List Value} {ds es : List D} (I : Inv X pins σ H s)
    (r : Vals vs us) (rz : Vals zs ws) (hn : us.length = n) (hk : ws.length = ks.length) (m : MR X.K H G L M) (rd : RDs X.K Z.T H G L M vs ds) (re : RDs X.K Z.T H G L M zs es)
    (h : Post X.K Z.T H G L M (match planD plan (ds ++ es) with
      | some bs => fs bs M
      | none => .bad) Q fun cls d H' => W cls d σ H') : wpAny (model X.prog X.w) X.A (call (.ref f) us (ks.zip ws)) (EP X pins σ Q) X.xe s := by
  obtain ⟨its, hits, hb⟩ := B.ex
  have e0 := I.env0
  rw [g.hP, g.hw, g.hK, g.hm, g.hb] at e0
  have kin : Z.K.In s.heap := by rw [← g.hK]; exact I.kIn
  rw [g.hK] at m rd re h
  split at h
  · rename_i bs eb
    obtain ⟨xs, h1, h2, h3⟩ := plan_ok (its := its) (r.append rz) (RDs.app rd re) hits eb
    refine wpAny_call ?_
    rw [g.hP, g.hw]
    refine codeAny_mono (F X.A X.stack s H ⟨us, ks.zip ws⟩ xs _ bs G L M Q _ g.room e0 (hb s us ws kin hn hk) h1 (by rw [h3, B.len]) m h2 h) fun r' s' hq => ?_
    cases r' with
    | error e =>
      refine g.takes e s' (XE.of_call I (fun _ _ _ z => z) ?_)
      rw [g.hP, g.hw]
      exact hq
    | ok fl =>
      cases fl with
      | ret u =>
        refine I.after ?_
        rw [g.hP, g.hw]
        exact hq
      | next => exact False.elim hq
      | brk => exact False.elim hq
      | cont => exact False.elim hq
  · exact False.elim h
/-- what is behind the written values -/
theorem callU_kw (g : Gd Z k N sc X W) (F : FnG Z k f fd ps fs) (B : BindsG Z.K fd ps n (kwNames kws) plan) (hb : KD X Z.T W β kws) {pins : List (Addr × Obj)} {σ : L2.St} {Q : VK} {ρ : Env} {G : Addr → Prop} {us : List Value} {vs : List V} {ds : List D} {s1 : Shared} {H1 : Hp} {L1 : List Addr} {M1 : Mem}
    (I1 : Inv X pins σ H1 s1) (sr1 : SR X.K Z.T σ H1 ρ G L1 M1) (r1 : Vals vs us) (rd1 : RDs X.K Z.T H1 G L1 M1 vs ds)
    (h1 : Post X.K Z.T H1 G L1 M1 ((β ρ M1).bind fun es M2 => if ds.length = n ∧ es.length = (kwNames kws).length then match planD plan (ds ++ es) with
          | some bs => fs bs M2
          | none => .bad
        else .bad) Q (fun cls d H' => W cls d σ H')) :
    wpAny (model X.prog X.w) X.A (evalAll ((backToKw pos (keywordEach kws X.env)).map (·.2))) (fun ks s₂ => X.K.In s₂.heap ∧ wpAny (model X.prog X.w) X.A (call (.ref f) us (((backToKw pos (keywordEach kws X.env)).filterMap (·.1)).zip ks)) (EP X pins σ Q) X.xe s₂) X.xe s1 := by
  refine thn (hb.run pos pins s1 σ H1 _ I1 ⟨ρ, G, L1, M1, sr1, PostA.bind h1⟩) fun ws s2 ⟨zs, H2, I2, rz, es, L2, M2, n2, m2, rd2, h2⟩ => ⟨I2.kIn, ?_⟩
  rw [kw_names]
  split at h2
  · rename_i hl
    refine callU_run g F B I2 r1 rz ?_ ?_ m2 (rd1.ext n2) rd2 h2
    · rw [← r1.length, rd1.length]; exact hl.1
    · rw [← rz.length, rd2.length]; exact hl.2
  · exact False.elim h2
theorem callU_pl (g : Gd Z k N sc X W) (F : FnG Z k f fd ps fs) (B : BindsG Z.K fd ps n [] plan) {pins : List (Addr × Obj)} {σ : L2.St} {Q : VK} {ρ : Env} {G : Addr → Prop} {us : List Value} {vs : List V} {ds : List D} {s1 : Shared} {H1 : Hp} {L1 : List Addr} {M1 : Mem}
    (I1 : Inv X pins σ H1 s1) (m1 : MR X.K H1 G L1 M1) (r1 : Vals vs us) (rd1 : RDs X.K Z.T H1 G L1 M1 vs ds)
    (h1 : Post X.K Z.T H1 G L1 M1 ((aNil ρ M1).bind fun es M2 => if ds.length = n ∧ es.length = 0 then match planD plan (ds ++ es) with
          | some bs => fs bs M2
          | none => .bad
        else .bad) Q (fun cls d H' => W cls d σ H')) :
    wpAny (model X.prog X.w) X.A (call (.ref f) us) (EP X pins σ Q) X.xe s1 := by
  have h1 : Post X.K Z.T H1 G L1 M1 (if ds.length = n ∧ ([] : List D).length = 0 then match planD plan (ds ++ []) with
          | some bs => fs bs M1
          | none => .bad
        else .bad) Q (fun cls d H' => W cls d σ H') := h1
  split at h1
  · rename_i hl
    exact callU_run (zs := []) (ws := []) g F B I1 r1 .nil (by rw [← r1.length, rd1.length]; exact hl.1) rfl m1 rd1 .nil h1
  · exact False.elim h1
theorem pd_callU (g : Gd Z k N sc X W) (F : FnG Z k f fd ps fs) (B : BindsG Z.K fd ps n [] plan) (hg : Gl X x) (hm : Z.mg x = some (.ref f)) (hk : PySem.W.keepIn Z.K (.ref f) = true) (hst : (e :: es).any starB = false)
    (ha : AD X Z.T W α (e :: es)) (hdb : (x == ("__debug__" : Str)) = false) : PD X Z.T W (eCallU fs n 0 plan α aNil) (.Call (.Name x p) (e :: es) [] pos) := by
  refine ⟨fun pins s σ H Q I h => ?_⟩
  obtain ⟨ρ, G, L, M, sr, h⟩ := h
  rw [List.any_cons, Bool.or_eq_false_iff] at hst
  have hk' : PySem.W.keepIn X.K (.ref f) = true := by rw [g.hK]; exact hk
  refine wpAny_Call_Name_kw (ld_glob I hg (by rw [g.hm]; exact hm) ?_ hdb)
  refine PySem.W.callWith_K (h₀ := X.base) I.ok.mod.kin hk' (thn (ha.run pos pins s σ H _ I ⟨ρ, G, L, M, sr, PostA.bind h⟩) fun us s1 ⟨vs, H1, I1, r1, ds, L1, M1, n1, m1, rd1, h1⟩ => ⟨I1.kIn, ?_⟩) (star_cons hst.1) (star_any hst.2)
  exact callU_pl g F B I1 m1 r1 rd1 h1
theorem pd_callU0 (g : Gd Z k N sc X W) (F : FnG Z k f fd ps fs) (B : BindsG Z.K fd ps n [] plan) (hg : Gl X x) (hm : Z.mg x = some (.ref f)) (hk : PySem.W.keepIn Z.K (.ref f) = true)
    (hdb : (x == ("__debug__" : Str)) = false) : PD X Z.T W (eCallU fs n 0 plan aNil aNil) (.Call (.Name x p) [] [] pos) := by
  refine ⟨fun pins s σ H Q I h => ?_⟩
  obtain ⟨ρ, G, L, M, sr, h⟩ := h
  have hk' : PySem.W.keepIn X.K (.ref f) = true := by rw [g.hK]; exact hk
  refine wpAny_Call_Name_kw (ld_glob I hg (by rw [g.hm]; exact hm) ?_ hdb)
  exact PySem.W.callWith_K0 I.kIn hk' (callU_pl (ds := []) (vs := []) (ρ := ρ) g F B I sr.mr .nil .nil h)
theorem pd_callUK (g : Gd Z k N sc X W) (F : FnG Z k f fd ps fs) (B : BindsG Z.K fd ps n (kwNames kws) plan) (hg : Gl X x) (hm : Z.mg x = some (.ref f)) (hk : PySem.W.keepIn Z.K (.ref f) = true) (hst : (e :: es).any starB = false) (hkw : kws.all (·.arg.isSome) = true)
    (ha : AD X Z.T W α (e :: es)) (hb : KD X Z.T W β kws) (hdb : (x == ("__debug__" : Str)) = false) : PD X Z.T W (eCallU fs n (kwNames kws).length plan α β) (.Call (.Name x p) (e :: es) kws pos) := by
  refine ⟨fun pins s σ H Q I h => ?_⟩
  obtain ⟨ρ, G, L, M, sr, h⟩ := h
  have hst' := hst
  rw [List.any_cons, Bool.or_eq_false_iff] at hst
  have hk' : PySem.W.keepIn X.K (.ref f) = true := by rw [g.hK]; exact hk
  refine wpAny_Call_Name_kw (ld_glob I hg (by rw [g.hm]; exact hm) ?_ hdb)
  refine PySem.W.callWith_KW (h₀ := X.base) I.ok.mod.kin hk' (kw_all hkw) (thn (ha.run pos pins s σ H _ I ⟨ρ, G, L, M, sr, PostA.bind h⟩) fun us s1 ⟨vs, H1, I1, r1, ds, L1, M1, n1, m1, rd1, h1⟩ => ?_) (by rw [star_any hst', kw_any hkw]; rfl) (star_cons hst.1)
  exact callU_kw g F B hb I1 (sr.ext n1 m1) r1 rd1 h1
theorem pd_callU0K (g : Gd Z k N sc X W) (F : FnG Z k f fd ps fs) (B : BindsG Z.K fd ps n (kwNames kws) plan) (hg : Gl X x) (hm : Z.mg x = some (.ref f)) (hk : PySem.W.keepIn Z.K (.ref f) = true) (hkw : kws.all (·.arg.isSome) = true)
    (hb : KD X Z.T W β kws) (hdb : (x == ("__debug__" : Str)) = false) : PD X Z.T W (eCallU fs n (kwNames kws).length plan aNil β) (.Call (.Name x p) [] kws pos) := by
  refine ⟨fun pins s σ H Q I h => ?_⟩
  obtain ⟨ρ, G, L, M, sr, h⟩ := h
  have hk' : PySem.W.keepIn X.K (.ref f) = true := by rw [g.hK]; exact hk
  refine wpAny_Call_Name_kw (ld_glob I hg (by rw [g.hm]; exact hm) ?_ hdb)
  refine PySem.W.callWith_KW0 (h₀ := X.base) I.ok.mod.kin hk' (kw_all hkw) ?_ (by rw [kw_any hkw]; rfl)
  exact callU_kw (ds := []) (vs := []) g F B hb I sr .nil .nil h
end
end Cb

set_option Elab.async false
set_option linter.all false
set_option maxRecDepth 100000
/-! Cb, part K: sorted of lists and tuples, by len too; dict displays. -/
namespace Cb
open PySem PySem.Spec PyProof.Rows L2

section
variable {prog : Program} {w : World} {A : Around} {E : Value → Shared → Prop} {s : Shared}
open PySem.W in
theorem gather_seq {p : Addr} {ob : Obj} {us : List Value} {n : Nat} {Q : List Value → Shared → Prop} (hg : s.heap.get? p = some ob) (hc : ob.cls = .type "list" ∨ ob.cls = .type "tuple") (hd : ob.data = .seq us.toArray n) (hz : us.length ≤ sizeLine)
    (k : Q us { s with heap := (s.heap.push (seqObj "list" #[] 0)).update s.heap.objs.size (Obj.mapSeq (· ++ us.toArray)) }) : wpAny (model prog w) A (collect (.ref p)) Q E s := by
  unfold collect
  refine wpAny_bind (wpAny_runValue (codeAny_builtin entry_proto_collect' ?_))
  show wpAny _ _ (do again (.builtin "list.__iadd__" ⟨[← newList [], .ref p], []⟩)) _ _ s
  refine wpAny_bind (wpAny_newList ?_)
  refine wpAny_pure ⟨Code.quiet_builtin _ (by decide +kernel), codeAny_builtin entry_list_iadd' ?_⟩
  show wpAny _ _ (Builtin.List.listExtendWith (.ref s.heap.objs.size) (.ref p) _) _ _ { s with heap := s.heap.push (seqObj "list" #[] 0) }
  unfold Builtin.List.listExtendWith
  have hg2 : (s.heap.push (seqObj "list" #[] 0)).get? p = some ob := Heap.get?_push_of_some _ hg
  have hty : ∃ T, ob.cls = .type T ∧ (T = "list" ∨ T = "tuple") := hc.elim (fun e => ⟨_, e, .inl rfl⟩) fun e => ⟨_, e, .inr rfl⟩
  obtain ⟨T, eT, oT⟩ := hty
  have cond : ∀ b : Bool, (b || Value.type T == Value.type "list" || Value.type T == Value.type "tuple") = true := fun b => by
    have l1 : (Value.type "list" == Value.type "list") = true := by rfl
    have l2 : (Value.type "tuple" == Value.type "tuple") = true := by rfl
    rcases oT with e | e <;> subst e
    · rw [l1]; simp
    · rw [l2]; simp
  refine wpAny_bind (wpAny_typeOf ⟨ob, hg2, eT⟩ ?_)
  rw [if_pos (cond _)]
  have mine : (s.heap.push (seqObj "list" #[] 0)).get? s.heap.objs.size = some (seqObj "list" #[] 0) := Heap.get?_push_size _ rfl
  refine wpAny_bind (listItems_at hg2 hd (wpAny_bind (listItems_at mine rfl ?_)))
  rw [if_neg (by simp)]
  have fits : (#[] ++ us.toArray).size ≤ sizeLine + 1 := by
    rw [Array.size_append, List.size_toArray]
    simp
    omega
  refine wpAny_bind (listUpdate_at mine rfl (wpAny_pure ?_) (Nat.zero_le _) fits)
  show wpAny (model prog w) A (do
      let r ← load s.heap.objs.size
      match r.data with
      | .seq ys _ => pure ys.toList
      | _ => unsupported "internal:collect") Q E _
  refine wpAny_bind (wpAny_load (get?_update_seq mine _) ?_)
  have back : ((#[] : Array Value) ++ us.toArray).toList = us := by simp
  show wpAny _ _ (pure ((#[] : Array Value) ++ us.toArray).toList) Q E _
  rw [back]
  exact wpAny_pure k
open PySem.W PySem.Calls in
/-- sorted(xs, ..) is sort(..) on the copy -/
theorem sorted_seq {p : Addr} {ob : Obj} {us : List Value} {n : Nat} {kw : List (Str × Value)} {Q : Value → Shared → Prop} (hg : s.heap.get? p = some ob) (hc : ob.cls = .type "list" ∨ ob.cls = .type "tuple") (hd : ob.data = .seq us.toArray n) (hz : us.length ≤ sizeLine)
    (a1 : argsOk "sorted" ⟨[.ref p], kw⟩) (a2 : ∀ x, argsOk "list.sort" ⟨[.ref x], kw⟩)
    (body : ∀ E' : Value → Shared → Prop, wpAny (model prog w) A.in1.in1 (Builtin.«list.sort» ⟨[.ref (s.heap.objs.size + 1)], kw⟩) (fun f s' => f = .done (.ret .none) ∧ Q (.ref (s.heap.objs.size + 1)) s') E' { s with heap := copyHeap s.heap us }) :
    wpAny (model prog w) A (call (.builtin "sorted") [.ref p] kw) Q E s := by
  refine call_function_entry_kw kind_sorted plain_sorted entry_sorted a1 ?_
  unfold Builtin.«sorted»
  refine wpAny_bind (m := checkCount "sorted" 1 1 _) (wpAny_pure ?_)
  refine wpAny_bind (gather_seq hg hc hd hz (wpAny_bind (wpAny_newList ?_ hz)))
  have sz : ((s.heap.push (seqObj "list" #[] 0)).update s.heap.objs.size (Obj.mapSeq (· ++ us.toArray))).objs.size = s.heap.objs.size + 1 := (Heap.size_update ..).trans (size_push' ..)
  show wpAny _ _ _ _ _ { s with heap := copyHeap s.heap us }
  rw [sz]
  refine wpAny_bind (wpAny_holding (wpAny_call_entry_kw slot_list_sort ⟨_, copyHeap_at s.heap us, rfl⟩ entry_list_sort ?_ (a2 _)))
  show wpAny (model prog w) A.in1.in1 (Builtin.«list.sort» ⟨[.ref (s.heap.objs.size + 1)], kw⟩) _ _ _
  refine wpAny_mono (body _) (fun f s' h => ?_) fun _ _ e => e
  obtain ⟨rfl, q⟩ := h
  exact ⟨_, rfl, wpAny_pure ⟨_, rfl, q⟩⟩
end
section
open PySem.W
theorem Rp.reads {X : Cx} {pins : List (Addr × Obj)} {σ : L2.St} {H : Hp} {s : Shared} {Fb : Addr → Prop} (I : Inv X pins σ H s) {v : V} {u : Value} {d : P} (hp : d.plain = true) (r : Rp X.K H Fb v d) (ru : RelV v u) : ∃ as, Reads s.heap u d as :=
  Dp.reads I _ _ _ (Rp.dp _ _ hp r) ru
end
/-- a list or a tuple in the heap -/
theorem seq_at {X : Cx} {pins : List (Addr × Obj)} {σ : L2.St} {H : Hp} {s : Shared} {a : Addr} {vs : List V} (I : Inv X pins σ H s) (h : SqL X.K H a vs ∨ SqT X.K H a vs) :
    ∃ (its : List Value) (ob : Obj) (n : Nat), Vals vs its ∧ s.heap.get? a = some ob ∧ (ob.cls = .type "list" ∨ ob.cls = .type "tuple") ∧ ob.data = .seq its.toArray n ∧ its.length ≤ sizeLine := by
  rcases h with h | h
  · obtain ⟨its, rv, pl, hz⟩ := I.list h
    obtain ⟨ob, e1, e2, n, e3⟩ := pl.isList
    exact ⟨its, ob, n, rv, e1, .inl e2, e3, by rw [← rv.length]; exact hz⟩
  · obtain ⟨its, rv, ⟨ob, e1, e2, n, e3⟩, hz⟩ := I.tuple h
    exact ⟨its, ob, n, rv, e1, .inr e2, e3, by rw [← rv.length]; exact hz⟩
theorem sortOk_ok {xs : List P} (h : sortOk xs = true) : (∀ b, b ∈ xs → okP b = true) ∧ PySem.W.AllAlike xs ∧ PySem.W.Sortable xs := by
  unfold sortOk at h
  simp only [Bool.and_eq_true, Bool.or_eq_true, List.all_eq_true] at h
  obtain ⟨⟨k1, k2⟩, k3⟩ := h
  refine ⟨k1, fun d hd d' hd' => k2 d hd d' hd', ?_⟩
  rcases k3 with k3 | k3
  · refine .inl fun d hd => ?_
    have := k3 d hd
    cases d with
    | tuple ys => cases ys with
      | nil => cases this
      | cons y r => exact ⟨y, r, rfl⟩
    | _ => cases this
  · refine .inr fun d hd => ?_
    have := k3 d hd
    exact ⟨fun z => (by rw [z] at this; cases this), fun ys z => (by rw [z] at this; cases this)⟩
/-- sorted(xs) of a list or a tuple -/
def bSrt : List D → Mem → Option (Ev × Mem) := fun ds M => match ds with
  | [d] => match seqP d M with
    | some xs => if sortOk xs = true then some (.new (.lst (sortP xs)), M) else none
    | none => none
  | _ => none
theorem srt_new {X : Cx} {T : Tb} {pins : List (Addr × Obj)} {σ : L2.St} {H : Hp} {s : Shared} {G : Addr → Prop} {L : List Addr} {M : Mem} {zs : List P} {out : List Value} {h' : Heap} {tk c : Nat} {Q : VK} (I : Inv X pins σ H s) (m : MR X.K H G L M) (hz : zs.length ≤ sizeLine)
    (kp : ∀ b o, s.heap.get? b = some o → h'.get? b = some o) (at_ : h'.get? (s.heap.objs.size + 1) = some (seqObj "list" (List.toArray out) c)) (e : PySem.W.EachIs (fun u d => ∃ x, RelV x u ∧ Rp X.K H (Fbd L M G) x d) out zs)
    (q : Post X.K T H G L M (.ok (.new (.lst zs)) M) Q never) : EP X pins σ Q (.ref (s.heap.objs.size + 1)) { s with heap := h', toks := tk } := by
  obtain ⟨vs, r1, r2⟩ := each_back e
  have fr : H (s.heap.objs.size + 1) = none := I.hok.fresh (Nat.le_succ _)
  have lz : vs.length ≤ sizeLine := by rw [r2.length]; exact hz
  exact ⟨.ref _, upd H (s.heap.objs.size + 1) (.lst vs), I.laid (t' := tk) kp (Nat.le_succ _) ⟨lz, out, c, r1, at_⟩, rfl, q _ _ H L fr Nxt.refl m (.lst r2)⟩
open PySem.W in
theorem cg_srt {X : Cx} {T : Tb} (c : XOk X) : CallG X T (.builtin "sorted") bSrt := by
  intro pins s σ H xs us Q I r h
  obtain ⟨ds, ev, M', G, L, M, m, rds, e, q⟩ := h
  unfold bSrt at e
  split at e
  · split at e
    · rename_i d zs e1
      split at e
      · rename_i hok
        cases e
        cases rds with
        | cons r1 r2 =>
        cases r2
        obtain ⟨p, vs, rfl, hsq, h2⟩ := seqP_ok m r1 e1
        obtain ⟨u, rfl, ru⟩ := vals1 r
        cases ru
        obtain ⟨its, ob, n, rv, g1, g2, g3, hz⟩ := seq_at I hsq
        obtain ⟨k1, k2, k3⟩ := sortOk_ok hok
        have hl : zs.length = its.length := by rw [← rv.length, h2.length]
        have ea := Cb.each_of rv h2
        have er : EachIs (fun u d => ∃ as, Reads (sortingHeap (copyHeap s.heap its) (s.heap.objs.size + 1) its) u (id d) as) its zs := each_mono_mem ea fun a b hb ⟨x, rx, rp⟩ => by
          obtain ⟨as, ra⟩ := Rp.reads I (okP_plain (k1 b hb)) rp rx
          exact ⟨as, PyProof.Rows.Reads.keeps (fun _ _ => sorting_copy_old) ra⟩
        have al : AllAlike (zs.map id) := by rw [List.map_id]; exact k2
        have so : Sortable (zs.map id) := by rw [List.map_id]; exact k3
        refine sorted_seq g1 g2 g3 hz (args_sorted1 _) (fun _ => args_list_sort _) fun E' => ?_
        have S := SortsAt.data (prog := X.prog) (w := X.w) (A := X.A.in1.in1) (s := { s with heap := sortingHeap (copyHeap s.heap its) (s.heap.objs.size + 1) its }) (PySem.W.each_map (R := fun v d => ∃ as, Reads (sortingHeap (copyHeap s.heap its) (s.heap.objs.size + 1) its) v d as) id er) al so (fun d hd => by
          rw [List.map_id] at hd
          have := okP_depth (k1 d hd)
          have := c.hu
          show X.A.units + 2 + d.depth < cLine
          omega)
        refine list_sort_vals (s := { s with heap := copyHeap s.heap its }) (copyHeap_at s.heap its) S hz ⟨rfl, ?_⟩
        have out := sortVals_data (enc := id) false ea er al
        obtain ⟨ep, he⟩ := PyProof.Rows.sortedAll_at s.heap its (List.toArray (sortVals (dataKind (sortingHeap (copyHeap s.heap its) (s.heap.objs.size + 1) its) (zs.map id)) false its its))
        refine srt_new I m ?_ (fun _ _ => PyProof.Rows.sortedAll_old) he out q
        rw [List.length_mergeSort, hl]; exact hz
      · cases e
    · cases e
  · cases e
/-- sorted(xs, key=len) -/
def kLen : P → Option Nat
  | .list xs => some xs.length
  | .tuple xs => some xs.length
  | .str x => some x.length
  | _ => none
def keyLen (d : P) : P := .int ((kLen d).getD 0)
def okLen (x : P) : Bool := okP x && (kLen x).isSome
def bSrtLen (xs : List P) : List P := xs.mergeSort (PySem.W.dataLe false keyLen)
open PySem.W PySem.Calls in
theorem srt_len {X : Cx} {T : Tb} (c : XOk X) {pins : List (Addr × Obj)} {s : Shared} {σ : L2.St} {H : Hp} {v : V} {u : Value} {d : D} {G : Addr → Prop} {L : List Addr} {M : Mem} {Q : VK} {zs : List P} (I : Inv X pins σ H s) (m : MR X.K H G L M) (r1 : RD X.K T H G L M v d) (ru : RelV v u)
    (e1 : seqP d M = some zs) (hok : zs.all okLen = true) (q : Post X.K T H G L M (.ok (.new (.lst (bSrtLen zs))) M) Q never) :
    wpAny (model X.prog X.w) X.A (call (.builtin "sorted") [u] [(Str.ofString "key", .builtin "len")]) (EP X pins σ Q) X.xe s := by
  obtain ⟨p, vs, rfl, hsq, h2⟩ := seqP_ok m r1 e1
  cases ru
  obtain ⟨its, ob, n, rv, g1, g2, g3, hz⟩ := seq_at I hsq
  rw [List.all_eq_true] at hok
  have hl : zs.length = its.length := by rw [← rv.length, h2.length]
  have ea := Cb.each_of rv h2
  refine sorted_seq g1 g2 g3 hz (ksk_s1 _ _) (fun _ => ksk_l1 _ _) fun E' => ?_
  rw [ksk_t4]
  have bit : ∀ x, x ∈ zs → ∃ k, kLen x = some k ∧ okP x = true := fun x hx => by
    have := hok x hx
    unfold okLen at this
    rw [Bool.and_eq_true] at this
    obtain ⟨k, ek⟩ := Option.isSome_iff_exists.mp this.2
    exact ⟨k, ek, this.1⟩
  have hn := line63
  refine keyH_tree (kz := zs.map keyLen) (s := { s with heap := copyHeap s.heap its }) (copyHeap_at s.heap its) (by rw [List.length_map, hl]) hz ?_ ?_ ?_ ?_ fun h' tk out cc kp hD ko => ⟨rfl, ?_⟩
  · intro a ha b hb
    obtain ⟨x, _, rfl⟩ := List.mem_map.mp ha
    obtain ⟨y, _, rfl⟩ := List.mem_map.mp hb
    rfl
  · refine .inr fun a ha => ?_
    obtain ⟨x, _, rfl⟩ := List.mem_map.mp ha
    exact ⟨fun z => (by cases z), fun ys z => (by cases z)⟩
  · intro a ha
    obtain ⟨x, _, rfl⟩ := List.mem_map.mp ha
    have := c.hu
    show X.A.units + 2 + (keyLen x).depth < cLine
    have : (keyLen x).depth ≤ 1 := by simp [keyLen, PyData.depth]
    omega
  · refine keyH_turns (s := { s with heap := copyHeap s.heap its }) ea fun w x hR hx h tk kp => ?_
    have up : ∀ b o, s.heap.get? b = some o → h.get? b = some o := fun b o e => kp b o (Nat.ne_of_lt (Nat.lt_succ_of_lt (Heap.lt_size e))) (copyHeap_old e)
    obtain ⟨y, ry, rp⟩ := hR
    obtain ⟨k, ek, eo⟩ := bit x hx
    have kv : keyLen x = .int (k : Nat) := by unfold keyLen; rw [ek]; rfl
    rw [kv]
    have seq : ∀ {a : Addr} {xs : List V}, (SqL X.K H a xs ∨ SqT X.K H a xs) → xs.length = k → w = .ref a → wpAny (model X.prog X.w) X.A.in1.in1 (call (.builtin "len") [w]) (KeyPure (.int (k : Nat)) { s with heap := h, toks := tk }) (fun _ _ => False) { s with heap := h, toks := tk } := by
      intro a xs hs hk ew
      subst ew
      obtain ⟨us, ob2, n2, rv2, f1, f2, f3, fz⟩ := seq_at I hs
      have fl : us.toArray.size = k := by rw [List.size_toArray, ← rv2.length, hk]
      have fit : ((us.toArray.size : Nat) : Int) < 2 ^ 63 := by rw [List.size_toArray]; omega
      rcases f2 with f2 | f2
      · refine call_len_list (items := us.toArray) ⟨ob2, up _ _ f1, f2, n2, f3⟩ fit ?_
        rw [fl]
        exact ⟨h, _, rfl, fun b o e => e, .int _ _⟩
      · refine PyProof.Rows.len_tuple (items := us.toArray) ⟨ob2, up _ _ f1, f2, n2, f3⟩ fit ?_
        rw [fl]
        exact ⟨h, _, rfl, fun b o e => e, .int _ _⟩
    cases rp with
    | lst h1 h3 h4 =>
      cases ry
      exact seq (.inl (.inl (.inl h1))) (by rw [h4.length]; simpa [kLen] using ek) rfl
    | tup h1 h3 h4 =>
      cases ry
      exact seq (.inr (.inl h1)) (by rw [h4.length]; simpa [kLen] using ek) rfl
    | tupK k1 k2 k3 k4 k5 h4 =>
      cases ry
      exact seq (.inr (.inr ⟨_, _, _, k1, k2, k3, k4, k5⟩)) (by rw [h4.length]; simpa [kLen] using ek) rfl
    | str z hz2 =>
      obtain ⟨t, rfl⟩ := ry
      have e5 : z.length = k := by simpa [kLen] using ek
      refine PySem.P.len_str (by omega) ?_
      rw [e5]
      exact ⟨h, _, rfl, fun b o e => e, .int _ _⟩
    | _ => simp [kLen] at ek
  · refine srt_new I m ?_ (fun b o e => kp b o (Nat.ne_of_lt (Nat.lt_succ_of_lt (Heap.lt_size e))) (copyHeap_old e)) hD (keyedOut_each keyLen ko ea) q
    rw [List.length_mergeSort, hl]; exact hz
def eSrtLen (φ : PFn) : PFn := fun ρ M => (stl (φ ρ M)).bind fun d M1 => match seqP d M1 with
  | some xs => if xs.all okLen = true then .ok (.new (.lst (bSrtLen xs))) M1 else .bad
  | none => .bad
theorem pd_srtLen {X : Cx} {T : Tb} {W : WX} {φ : PFn} {e : Expr} {p pos q kp : Pos} (c : XOk X) (hg : Gl X "sorted") (hm : X.mg "sorted" = none) (hg2 : Gl X "len") (hm2 : X.mg "len" = none) (he : PD X T W φ e) (hs : starB e = false) :
    PD X T W (eSrtLen φ) (.Call (.Name "sorted" p) [e] [⟨some "key", .Name "len" q, kp⟩] pos) := by
  refine ⟨fun pins s σ H Q I h => ?_⟩
  obtain ⟨ρ, G, L, M, sr, h⟩ := h
  refine wpAny_Call_Name_kw (ld_blt I hg hm PyProof.Rows.boot_sorted ?_)
  have he1 := he.run pins s σ H _ I ⟨ρ, G, L, M, sr, Post.bind h⟩
  refine PyProof.Rows.callWith_kw ?_ (by rw [star_cons hs]; rfl) (by rw [star_cons hs]; rfl) rfl rfl
  rw [star_cons hs]
  refine Calls.spliced_cons (thn he1 fun u s1 ⟨v, H1, I1, r1, d, L1, M1, n1, m1, rd, h1⟩ => Calls.spliced_nil ?_)
  split at h1
  · rename_i zs e1
    split at h1
    · rename_i hok
      show wpAny _ _ (evalAll [(do let v ← eval (.Name "len" q) X.env; standAt pos; pure v)]) _ _ s1
      refine wpAny_evalAll_cons (wpAny_bind (ld_blt I1 hg2 hm2 PySem.boot_len (wpAny_bind (wpAny_standAt (wpAny_pure (wpAny_evalAll_nil ?_))))))
      exact srt_len c I1 m1 rd r1 e1 hok (Post.ok_any h1 never)
    · exact False.elim h1
  · exact False.elim h1
end Cb

set_option Elab.async false
set_option linter.all false
set_option maxRecDepth 100000
/-! Cb, part L: dict displays; the rules as the printed terms use them. -/
namespace Cb
open PySem PySem.Spec PyProof.Rows L2

/-! ### {k: v, ..} -/
def pairL : List (PFn × PFn) → Env → Mem → Res (List (P × P))
  | [], _, M => .ok [] M
  | kv :: r, ρ, M => (ne (stl (kv.1 ρ M))).bind fun k M1 => (ne (stl (kv.2 ρ M1))).bind fun v M2 => match k with
    | .p kp => match keyOf kp with
      | some _ => match pur v M2 with
        | some (y, M3) => (pairL r ρ M3).bind fun ps M4 => .ok ((kp, y) :: ps) M4
        | none => .bad
      | none => .bad
    | _ => .bad
def mergeP (ps : List (P × P)) : List (P × P) := ps.foldl (fun acc kv => dputP acc kv.1 kv.2) []
def eDisp (l : List (PFn × PFn)) : PFn := fun ρ M => (pairL l ρ M).bind fun ps M1 => .ok (.new (.dct (mergeP ps))) M1
def eDNew : PFn := fun _ M => .ok (.new (.dct [])) M
theorem ne_case {α : Type} (r : Res α) : ne r = .bad ∨ ∃ a M, r = .ok a M := by
  cases r with
  | ok a M => exact .inr ⟨a, M, rfl⟩
  | err _ _ => exact .inl rfl
  | bad => exact .inl rfl
theorem pairL_len : ∀ {l : List (PFn × PFn)} {ρ : Env} {M M' : Mem} {ps : List (P × P)}, pairL l ρ M = .ok ps M' → ps.length = l.length
  | [], _, _, _, _, h => by cases h; rfl
  | kv :: r, ρ, M, M', ps, h => by
    unfold pairL at h
    rcases ne_case (stl (kv.1 ρ M)) with e | ⟨k, M1, e⟩
    · rw [e] at h; cases h
    rw [e, ne_ok, Res.bind_ok] at h
    rcases ne_case (stl (kv.2 ρ M1)) with e2 | ⟨v, M2, e2⟩
    · rw [e2] at h; cases h
    rw [e2, ne_ok, Res.bind_ok] at h
    split at h
    · split at h
      · split at h
        · rename_i y M3 _
          cases e5 : pairL r ρ M3 with
          | ok qs M4 =>
            rw [e5, Res.bind_ok] at h
            cases h
            rw [List.length_cons, List.length_cons, pairL_len e5]
          | err _ _ => rw [e5] at h; cases h
          | bad => rw [e5] at h; cases h
        · cases h
      · cases h
    · cases h
theorem pairs_go {X : Cx} {T : Tb} : ∀ {l : List (PFn × PFn)} {ρ : Env} {σ : L2.St} {H : Hp} {G : Addr → Prop} {L : List Addr} {M M' : Mem} {ps : List (P × P)} {Q : List (V × V) → Hp → Prop}, SR X.K T σ H ρ G L M → pairL l ρ M = .ok ps M' →
    (∀ us H' L', Nxt H L M H' L' M' → MR X.K H' G L' M' → (∃ kvs : List (Key × V), us = kvs.map (fun kv => (kV kv.1, kv.2)) ∧ RpKV X.K H' (Fbd L' M' G) kvs ps) → Q us H') →
    tPairs (l.map fun kv => (tE X T Wn kv.1, tE X T Wn kv.2)) σ H Q
  | [], ρ, σ, H, G, L, M, M', ps, Q, sr, h, q => by
    cases h
    exact q [] H L Nxt.refl sr.mr ⟨[], rfl, .nil⟩
  | kv :: r, ρ, σ, H, G, L, M, M', ps, Q, sr, h, q => by
    unfold pairL at h
    rcases ne_case (stl (kv.1 ρ M)) with e | ⟨k, M1, e⟩
    · rw [e] at h; cases h
    rw [e, ne_ok, Res.bind_ok] at h
    refine ⟨ρ, G, L, M, sr, Post.of (by rw [e]; exact fun z => nomatch z) fun d Md v H1 L1 ed n1 m1 r1 => ?_⟩
    rw [e] at ed
    cases ed
    rcases ne_case (stl (kv.2 ρ M1)) with e2 | ⟨v2, M2, e2⟩
    · rw [e2] at h; cases h
    rw [e2, ne_ok, Res.bind_ok] at h
    have s1 := sr.ext n1 m1
    refine ⟨ρ, G, L1, M1, s1, Post.of (by rw [e2]; exact fun z => nomatch z) fun d2 Md2 w H2 L2 ed2 n2 m2 r2 => ?_⟩
    rw [e2] at ed2
    cases ed2
    split at h
    · rename_i kp
      split at h
      · rename_i kk ek
        split at h
        · rename_i y M3 ep
          obtain ⟨n3, m3, q3⟩ := pur_ok m2 r2 ep
          cases e5 : pairL r ρ M3 with
          | ok qs M4 =>
            rw [e5, Res.bind_ok] at h
            cases h
            have s3 := (s1.ext n2 m2).ext n3 m3
            refine pairs_go s3 e5 fun us H4 L4 n4 m4 hk => ?_
            obtain ⟨kvs, rfl, rk⟩ := hk
            refine q _ H4 L4 (((n1.trans n2).trans n3).trans n4) m4 ⟨(kk, w) :: kvs, ?_, ?_⟩
            · cases r1 with
              | p r1 => rw [kV_of r1 ek]; rfl
            · rw [keyOf_P ek]
              exact .cons (Rp.ext n4.keeps _ _ q3) rk
          | err _ _ => rw [e5] at h; cases h
          | bad => rw [e5] at h; cases h
        · cases h
      · cases h
    · cases h
theorem merge_kv {K : PySem.W.Frag} {H : Hp} {Fb : Addr → Prop} : ∀ (more : List (Key × V)) (ps : List (P × P)) (kvs : List (Key × V)) (ds : List (P × P)), RpKV K H Fb kvs ds → RpKV K H Fb more ps → RpKV K H Fb (mergeK kvs more) (ps.foldl (fun acc kv => dputP acc kv.1 kv.2) ds)
  | [], _, _, _, r, q => by cases q; exact r
  | (k, v) :: more, _, kvs, ds, r, q => by
    cases q with
    | @cons _ _ _ d ds' h t =>
      have z := merge_kv more ds' (putK kvs k v) (dputP ds (keyP k) d) (r.put h) t
      exact z
/-- the pairs of a display -/
inductive PP (X : Cx) (T : Tb) : List (PFn × PFn) → List (Option Expr) → List Expr → Prop
  | nil : PP X T [] [] []
  | cons {φ ψ : PFn} {k v : Expr} {l : List (PFn × PFn)} {ks : List (Option Expr)} {vs : List Expr} (hk : PD X T Wn φ k) (hv : PD X T Wn ψ v) (t : PP X T l ks vs) : PP X T ((φ, ψ) :: l) (some k :: ks) (v :: vs)
theorem PP.pps {X : Cx} {T : Tb} {pos : Pos} : ∀ {l : List (PFn × PFn)} {ks : List (Option Expr)} {vs : List Expr}, PP X T l ks vs → PPs X pos ks vs (l.map fun kv => (tE X T Wn kv.1, tE X T Wn kv.2))
  | _, _, _, .nil => pps_nil
  | _, _, _, .cons hk hv t => pps_cons hk hv t.pps
theorem PP.len {X : Cx} {T : Tb} : ∀ {l : List (PFn × PFn)} {ks : List (Option Expr)} {vs : List Expr}, PP X T l ks vs → ks.length = l.length ∧ vs.length = l.length ∧ ks.all (·.isSome) = true
  | _, _, _, .nil => ⟨rfl, rfl, rfl⟩
  | _, _, _, .cons _ _ t => by
    obtain ⟨h1, h2, h3⟩ := t.len
    exact ⟨by simp [h1], by simp [h2], by simp [h3]⟩
/-- what raises nothing, in any wish -/
theorem pd_disp {X : Cx} {T : Tb} {W : WX} {l : List (PFn × PFn)} {ks : List (Option Expr)} {vs : List Expr} {pos : Pos} (h : PP X T l ks vs) (h0 : l.length ≠ 0) (h15 : l.length ≤ 15) : PD X T W (eDisp l) (.Dict ks vs pos) := by
  obtain ⟨l1, l2, l3⟩ := h.len
  refine PE.imp (pe_disp h.pps l3 (l1.trans l2.symm) (fun z => h0 (by rw [← l1, z]; rfl)) (by rw [l1]; exact h15)) fun σ H Q h => ?_
  obtain ⟨ρ, G, L, M, sr, h⟩ := h
  unfold eDisp at h
  cases e : pairL l ρ M with
  | bad => rw [e] at h; exact False.elim h
  | err x M' =>
    exfalso
    clear h h0 h15 l1 l2 l3
    revert e
    generalize M = M0
    have no : ∀ (l : List (PFn × PFn)) (M : Mem), ∀ x M', pairL l ρ M ≠ .err x M' := by
      intro l
      induction l with
      | nil => intro M x M' z; cases z
      | cons kv r ih =>
        intro M x M' z
        unfold pairL at z
        rcases ne_case (stl (kv.1 ρ M)) with e | ⟨k, M1, e⟩
        · rw [e] at z; cases z
        rw [e, ne_ok, Res.bind_ok] at z
        rcases ne_case (stl (kv.2 ρ M1)) with e2 | ⟨v2, M2, e2⟩
        · rw [e2] at z; cases z
        rw [e2, ne_ok, Res.bind_ok] at z
        split at z
        · split at z
          · split at z
            · rename_i y M3 _
              cases e5 : pairL r ρ M3 with
              | ok qs M4 => rw [e5, Res.bind_ok] at z; cases z
              | err a b => exact ih M3 a b e5
              | bad => rw [e5] at z; cases z
            · cases z
          · cases z
        · cases z
    exact no l M0 x M'
  | ok ps M' =>
    rw [e, Res.bind_ok] at h
    intro p hp
    have sp : SR X.K T σ (upd H p (.dK [])) ρ (GP G p) L M := sr.extE ⟨keeps_hide hp, fun _ _ z => z⟩ (sr.mr.hide hp)
    have hGp : ¬ G p := fun g => sr.mr.tg p g hp
    refine pairs_go sp e fun us H2 L2 n2 m2 hk => ?_
    obtain ⟨kvs, eu, rk⟩ := hk
    have hp2 : H2 p = some (.dK []) := n2.hid_keep (sr.mr.hide hp) (.inr rfl) upd_same
    have hl : kvs.length ≤ 15 := by rw [rk.length, pairL_len e]; exact h15
    refine ⟨hp2, kvs, eu, hl, ?_⟩
    have ne2 : Nxt H L M (era p H2) L2 M' := by
      have := n2.era (p := p)
      rw [era_of_upd, era_none hp] at this
      exact this
    have fin := h p (.dK (mergeK [] kvs)) (era p H2) L2 era_same ne2 (m2.out hGp) (.dct (merge_kv _ _ _ _ .nil (RpKV.ext keeps_out _ _ rk)))
    have e2 : upd (era p H2) p (HO.dK (mergeK [] kvs)) = upd H2 p (.dK (mergeK [] kvs)) := by
      funext a
      by_cases ea : a = p
      · rw [ea, upd_same, upd_same]
      · rw [upd_ne ea, upd_ne ea, era_ne ea]
    rw [e2] at fin
    exact fin
theorem pd_dnew {X : Cx} {T : Tb} {W : WX} {pos : Pos} : PD X T W eDNew (.Dict [] [] pos) := PE.imp pe_dnewK fun σ H Q h => by
  obtain ⟨ρ, G, L, M, sr, h⟩ := h
  intro p hp
  exact h p (.dK []) H L hp Nxt.refl sr.mr (.dct .nil)
end Cb

set_option Elab.async false
set_option linter.all false
set_option maxRecDepth 100000
/-! Cb, part M: the rules as the printed terms use them. -/
namespace Cb
open PySem PySem.Spec PyProof.Rows L2

def visB (sc : Scope) (x : Str) : Bool := match sc.names.lookup x with
  | some .local => true
  | some .cell => true
  | some .free => true
  | _ => false
def locB (sc : Scope) (x : Str) : Bool := match sc.names.lookup x with
  | some .local => true
  | some .cell => true
  | _ => false
def glB (sc : Scope) (x : Str) : Bool := match sc.names.lookup x with
  | some .globalImplicit => true
  | _ => false
theorem vis_of {sc : Scope} {x : Str} (h : visB sc x = true) : Vis sc x := by
  unfold visB at h
  split at h
  · exact .inl (by assumption)
  · exact .inr (.inl (by assumption))
  · exact .inr (.inr (by assumption))
  · cases h
theorem loc_of {sc : Scope} {x : Str} (h : locB sc x = true) : Loc sc x := by
  unfold locB at h
  split at h
  · exact .inl (by assumption)
  · exact .inr (by assumption)
  · cases h
section
variable {Z : Wd} {k : Nat} {N : List Str} {sc scope : Scope} {X : Cx} {W : WX} {x : Str} {φ ψ : PFn} {α β : AFn} {a b e o elt tg iter : Expr} {es ifs : List Expr} {p pos apos spos : Pos} {i : Nat} {ι : IFn} {γ : GFn} {t : TFn} {own : List (Str × Nat)} {U : List Nat}
theorem gl_of (g : Gd Z k N sc X W) (h : glB sc x = true) : Gl X x := by
  unfold glB at h
  split at h
  · rename_i e
    show X.env.scope.names.lookup x = _
    rw [g.hs]; exact e
  · cases h
theorem no_of (g : Gd Z k N sc X W) (h : Z.mg x = none) : X.mg x = none := by rw [g.hm]; exact h
theorem g_var (g : Gd Z k N sc X W) (hi : N[i]? = some x) (hv : visB sc x = true) (hd : (x == ("__debug__" : Str)) = false) (hc : (x == ("__classdict__" : Str)) = false) : PD X Z.T W (eVar i) (.Name x pos) :=
  pd_var (by rw [g.hN]; exact hi) (by rw [g.hs]; exact vis_of hv) hd hc
/-- a comprehension's block -/
structure Gb (Z : Wd) (k : Nat) (N : List Str) (scope sc : Scope) (X : Cx) : Prop extends Gd Z k N (relS scope sc) X Wn where
  fnb : ∀ x, X.fn x = (scope.names.lookup x == some .cell)
theorem Gd.blk (g : Gd Z k N sc X W) (s : Shared) (H : Hp) (scope : Scope) (C : Addr) (cl : List (Str × Addr)) (fp : List Addr) : Gb Z k N scope sc (X.blk s H scope (compEnvC scope cl C X.env) fp) :=
  ⟨⟨g.hP, g.hw, g.hK, g.hm, g.hb, g.hN, by rw [← g.hs]; rfl, ⟨g.ok.calm, g.ok.nd, g.ok.hu, g.ok.hg⟩, g.room, fun u s' ⟨_, _, _, _, _, _, _, _, _, _, _, _, _, _, _, _, h⟩ => False.elim h⟩, fun _ => rfl⟩
def ownB (scope : Scope) (x : Str) : Bool := locB scope x
theorem g_nmB (g : Gb Z k N scope sc X) (hu : i ∈ U) (hi : N[i]? = some x) (h : ownB scope x = true) : GD X Z.T U (gNm i) (.Name x pos) := by
  unfold ownB locB at h
  have key : ∀ kd, scope.names.lookup x = some kd → kd ≠ .free → X.env.scope.names.lookup x = some kd := fun kd e hk => by
    rw [g.hs]
    exact lookup_relS_keep hk e
  split at h
  · rename_i e
    have := key _ e (by decide)
    exact gd_name g.ok hu (by rw [g.hN]; exact hi) (.inl this) (.inr this)
  · rename_i e
    have := key _ e (by decide)
    exact gd_name g.ok hu (by rw [g.hN]; exact hi) (.inr this) (.inl (by rw [g.fnb, e]; rfl))
  · cases h
theorem g_nm (g : Gs Z k N sc X W) (hu : i ∈ U) (hi : N[i]? = some x) (h : locB sc x = true) : GD X Z.T U (gNm i) (.Name x pos) :=
  gd_name g.ok hu (by rw [g.hN]; exact hi) (by rw [g.hs]; exact loc_of h) (.inl (g.fn x))
/-- the tests of a clause -/
def IfsD (X : Cx) (T : Tb) (t : TFn) (ifs : List Expr) : Prop := PTs X ifs (tT X T Wn t)
theorem if_nil {T : Tb} : IfsD X T tTrue [] := ptsd_nil
theorem if_one {T : Tb} {c : Expr} (h : TD X T Wn t c) : IfsD X T t [c] := pts_one h
theorem g_lc (g : Gd Z k N sc X W) (hi : ID X Z.T W ι tg iter) (ok : blkC N sc scope own = true) (hg : ∀ X', Gb Z k N scope sc X' → GD X' Z.T (own.map fun p : Str × Nat => p.2) γ tg) (ht : ∀ X', Gb Z k N scope sc X' → IfsD X' Z.T t ifs)
    (he : ∀ X', Gb Z k N scope sc X' → PD X' Z.T Wn φ elt) (hs : ∀ x, foldedSetIterable iter X.env x = pure x) : PD X Z.T W (eLc ι γ t φ (own.map fun p : Str × Nat => p.2)) (.ListComp elt [⟨tg, iter, ifs, 0⟩] scope pos) :=
  pd_lc g.ok hi (by rw [g.hN, g.hs]; exact blkOk_by ok) (fun s H C cl fp => hg _ (g.blk s H scope C cl fp)) (fun s H C cl fp => ht _ (g.blk s H scope C cl fp)) (fun s H C cl fp => he _ (g.blk s H scope C cl fp)) hs
/-- the name's own line holds the comprehension -/
def swB (sc scope : Scope) (y : Str) (py pos : Pos) : Bool := (match sc.names.lookup y with
  | some .local => true
  | _ => false) && (py.line == pos.line) && !(scope.names.any fun (n, k) => n == y && (k == .local || k == .cell))
theorem g_setLc {y : Str} {py : Pos} {χ : PFn} (g : Gs Z k N sc X W) (hu : i ∈ U) (hχ : χ = eLc ι γ t φ (own.map fun p : Str × Nat => p.2) ∨ χ = eAl (eLc ι γ t φ (own.map fun p : Str × Nat => p.2))) (hy : N[i]? = some y) (hsw : swB sc scope y py pos = true) (hi : ID X Z.T W ι tg iter)
    (ok : blkC N sc scope own = true) (hg : ∀ X', Gb Z k N scope sc X' → GD X' Z.T (own.map fun p : Str × Nat => p.2) γ tg) (ht : ∀ X', Gb Z k N scope sc X' → IfsD X' Z.T t ifs)
    (he : ∀ X', Gb Z k N scope sc X' → PD X' Z.T Wn φ elt) (hs : ∀ x, foldedSetIterable iter X.env x = pure x) : SD X Z.T W U (sSet i χ) (.Assign [.Name y py] (.ListComp elt [⟨tg, iter, ifs, 0⟩] scope pos) spos) := by
  unfold swB at hsw
  rw [Bool.and_eq_true, Bool.and_eq_true] at hsw
  obtain ⟨⟨h1, h2⟩, h3⟩ := hsw
  have hl : X.env.scope.names.lookup y = some .local := by
    rw [g.hs]
    split at h1
    · assumption
    · cases h1
  refine sd_setLc g.ok hu hχ (by rw [g.hN]; exact hy) hl (sw_true ?_ hl h2 (by simpa using h3)) hi (by rw [g.hN, g.hs]; exact blkOk_by ok) (fun s H C cl fp => hg _ (g.blk s H scope C cl fp)) (fun s H C cl fp => ht _ (g.blk s H scope C cl fp)) (fun s H C cl fp => he _ (g.blk s H scope C cl fp)) hs
  exact g.kind
theorem g_set (g : Gs Z k N sc X W) (hu : i ∈ U) (hi : N[i]? = some x) (hx : locB sc x = true) (he : PD X Z.T W φ e) (hs : ∀ env, swapsWith e (some (.Name x p)) pos.line env = pure false) : SD X Z.T W U (sSet i φ) (.Assign [.Name x p] e pos) :=
  sd_set g.ok hu (by rw [g.hN]; exact hi) (by rw [g.hs]; exact loc_of hx) (.inl (g.fn x)) he (hs _)
theorem g_aug {op : Operator} {f : D → D → Mem → Option Ev} (g : Gs Z k N sc X W) (hu : i ∈ U) (hi : N[i]? = some x) (hx : locB sc x = true) (he : PD X Z.T W φ e) (ho : OpG X Z.T (inplaceOp op) f) : SD X Z.T W U (sAug i f φ) (.AugAssign (.Name x p) op e pos) :=
  sd_aug g.ok hu (by rw [g.hN]; exact hi) (by rw [g.hs]; exact loc_of hx) (.inl (g.fn x)) he ho
theorem lookL {sc : Scope} {x : Str} (h : (sc.names.lookup x == some NameKind.local) = true) : sc.names.lookup x = some .local := by
  cases e : sc.names.lookup x with
  | none => rw [e] at h; cases h
  | some kd => rw [e] at h; cases kd <;> first | rfl | cases h
/-- a, b = e, f: the names local, on one line -/
theorem g_par {j : Nat} {y : Str} {px py pt pt2 : Pos} {kt k2 : Nat} (g : Gs Z k N sc X W) (hui : i ∈ U) (huj : j ∈ U) (hi : N[i]? = some x) (hj : N[j]? = some y) (hij : i ≠ j) (hx : (sc.names.lookup x == some NameKind.local) = true) (hy : (sc.names.lookup y == some NameKind.local) = true) (ha : AD X Z.T W α [a, b])
    (hw : ∀ env : PySem.Env, env.blockKind = .function → env.kindOf x = some .local → env.kindOf y = some .local → swappedStores [.Tuple [.Name x px, .Name y py] kt pt] (.Tuple [a, b] k2 pt2) env = pure (some [x, y])) :
    SD X Z.T W U (sPar i j α) (.Assign [.Tuple [.Name x px, .Name y py] kt pt] (.Tuple [a, b] k2 pt2) pos) := by
  have e1 : X.env.scope.names.lookup x = some .local := by rw [g.hs]; exact lookL hx
  have e2 : X.env.scope.names.lookup y = some .local := by rw [g.hs]; exact lookL hy
  have bk : X.env.blockKind = .function := by unfold PySem.Env.blockKind; rw [g.kind]; rfl
  exact sd_par g.ok hui huj (by rw [g.hN]; exact hi) (by rw [g.hN]; exact hj) hij e1 e2 ha (hw _ bk e1 e2) rfl
theorem g_for {body orelse : List Stmt} {bφ eφ : SFn} (g : Gs Z k N sc X W) (hi : ID X Z.T W ι tg iter) (hg : GD X Z.T U γ tg) (hb : BD X Z.T W U bφ body) (ho : BD X Z.T W U eφ orelse) (hs : ∀ x, foldedSetIterable iter X.env x = pure x) : SD X Z.T W U (sFor ι γ bφ eφ) (.For tg iter body orelse pos) :=
  sd_for g.ok g.pass hi hg hb ho hs
theorem g_while {c0 : Expr} {body orelse : List Stmt} {bφ eφ : SFn} (g : Gs Z k N sc X W) (hc : TD X Z.T W t c0) (hb : BD X Z.T W U bφ body) (ho : BD X Z.T W U eφ orelse) : SD X Z.T W U (sWh t bφ eφ) (.While c0 body orelse pos) :=
  sd_while g.ok g.pass hc hb ho
/-! the built-ins by name -/
theorem b_len (g : Gd Z k N sc X W) (m : Z.mg "len" = none) (l : glB sc "len" = true) (ha : AD X Z.T W α (e :: es)) (hs : (e :: es).any starB = false) : PD X Z.T W (eCallB bLen α) (.Call (.Name "len" p) (e :: es) [] pos) := pd_callB cg_len (gl_of g l) (no_of g m) PySem.boot_len ha hs (by decide) rfl
theorem b_list (g : Gd Z k N sc X W) (m : Z.mg "list" = none) (l : glB sc "list" = true) (ha : AD X Z.T W α (e :: es)) (hs : (e :: es).any starB = false) : PD X Z.T W (eCallB bList α) (.Call (.Name "list" p) (e :: es) [] pos) := pd_callTy cg_list (gl_of g l) (no_of g m) PyProof.Rows.boot_list ha hs (by decide) rfl
theorem b_tuple (g : Gd Z k N sc X W) (m : Z.mg "tuple" = none) (l : glB sc "tuple" = true) (ha : AD X Z.T W α (e :: es)) (hs : (e :: es).any starB = false) : PD X Z.T W (eCallB bTuple α) (.Call (.Name "tuple" p) (e :: es) [] pos) := pd_callTy cg_tuple (gl_of g l) (no_of g m) PyProof.Rows.boot_tuple ha hs (by decide) rfl
theorem b_max (g : Gd Z k N sc X W) (m : Z.mg "max" = none) (l : glB sc "max" = true) (ha : AD X Z.T W α (e :: es)) (hs : (e :: es).any starB = false) : PD X Z.T W (eCallB bMax α) (.Call (.Name "max" p) (e :: es) [] pos) := pd_callB (cg_max g.ok) (gl_of g l) (no_of g m) PyProof.Rows.boot_max ha hs (by decide) rfl
theorem b_min (g : Gd Z k N sc X W) (m : Z.mg "min" = none) (l : glB sc "min" = true) (ha : AD X Z.T W α (e :: es)) (hs : (e :: es).any starB = false) : PD X Z.T W (eCallB bMin α) (.Call (.Name "min" p) (e :: es) [] pos) := pd_callB (cg_min g.ok) (gl_of g l) (no_of g m) PyProof.Rows.boot_min ha hs (by decide) rfl
theorem b_all (g : Gd Z k N sc X W) (m : Z.mg "all" = none) (l : glB sc "all" = true) (ha : AD X Z.T W α (e :: es)) (hs : (e :: es).any starB = false) : PD X Z.T W (eCallB bAll α) (.Call (.Name "all" p) (e :: es) [] pos) := pd_callB (cg_all g.ok) (gl_of g l) (no_of g m) PyProof.Rows.boot_all ha hs (by decide) rfl
theorem b_any (g : Gd Z k N sc X W) (m : Z.mg "any" = none) (l : glB sc "any" = true) (ha : AD X Z.T W α (e :: es)) (hs : (e :: es).any starB = false) : PD X Z.T W (eCallB bAny α) (.Call (.Name "any" p) (e :: es) [] pos) := pd_callB (cg_any g.ok) (gl_of g l) (no_of g m) PyProof.Rows.boot_any ha hs (by decide) rfl
theorem b_sorted (g : Gd Z k N sc X W) (m : Z.mg "sorted" = none) (l : glB sc "sorted" = true) (ha : AD X Z.T W α (e :: es)) (hs : (e :: es).any starB = false) : PD X Z.T W (eCallB bSrt α) (.Call (.Name "sorted" p) (e :: es) [] pos) := pd_callB (cg_srt g.ok) (gl_of g l) (no_of g m) PyProof.Rows.boot_sorted ha hs (by decide) rfl
theorem b_repr (g : Gd Z k N sc X W) (m : Z.mg "repr" = none) (l : glB sc "repr" = true) (ha : AD X Z.T W α (e :: es)) (hs : (e :: es).any starB = false) : PD X Z.T W (eCallB bRepr α) (.Call (.Name "repr" p) (e :: es) [] pos) := pd_callB (cg_repr g.ok) (gl_of g l) (no_of g m) PyProof.Rows.boot_repr ha hs (by decide) rfl
theorem b_srtLen {q kp : Pos} (g : Gd Z k N sc X W) (m : Z.mg "sorted" = none) (l : glB sc "sorted" = true) (m2 : Z.mg "len" = none) (l2 : glB sc "len" = true) (he : PD X Z.T W φ e) (hs : starB e = false) : PD X Z.T W (eSrtLen φ) (.Call (.Name "sorted" p) [e] [⟨some "key", .Name "len" q, kp⟩] pos) :=
  pd_srtLen g.ok (gl_of g l) (no_of g m) (gl_of g l2) (no_of g m2) he hs
/-! the methods -/
def gmAppend : String → Option (D → List D → Mem → Option (Ev × Mem)) := fun ty => if ty = "list" then some mAppend else none
def gmExtend : String → Option (D → List D → Mem → Option (Ev × Mem)) := fun ty => if ty = "list" then some mExtend else none
def gmPop : String → Option (D → List D → Mem → Option (Ev × Mem)) := fun ty => if ty = "list" then some mPop else none
def gmInsert : String → Option (D → List D → Mem → Option (Ev × Mem)) := fun ty => if ty = "list" then some mInsert else none
def gmGet : String → Option (D → List D → Mem → Option (Ev × Mem)) := fun ty => if ty = "dict" then some mGet else none
theorem m_append (ho : PD X Z.T W φ o) (ha : AD X Z.T W α [e]) (hb : baseB o = true) (hs : [e].any starB = false) (hl : (apos.endLine == pos.line) = true) : PD X Z.T W (eMth gmAppend φ α) (.Call (.Attribute o "append" apos) [e] [] pos) :=
  pd_mth (fun ty g h => by
    unfold gmAppend at h
    split at h
    · rename_i et
      subst et
      cases h
      exact ⟨"list.append", PySem.F.plainAttrs_list, PySem.F.slot_list_append, PySem.F.type_list_append, mg_append⟩
    · cases h) ho ha hb hs (by simp) hl
theorem m_extend (ho : PD X Z.T W φ o) (ha : AD X Z.T W α [e]) (hb : baseB o = true) (hs : [e].any starB = false) (hl : (apos.endLine == pos.line) = true) : PD X Z.T W (eMth gmExtend φ α) (.Call (.Attribute o "extend" apos) [e] [] pos) :=
  pd_mth (fun ty g h => by
    unfold gmExtend at h
    split at h
    · rename_i et
      subst et
      cases h
      exact ⟨"list.extend", PySem.F.plainAttrs_list, PySem.F.slot_list_extend, PySem.F.type_list_extend, mg_extend⟩
    · cases h) ho ha hb hs (by simp) hl
theorem m_pop (ho : PD X Z.T W φ o) (ha : AD X Z.T W α [e]) (hb : baseB o = true) (hs : [e].any starB = false) (hl : (apos.endLine == pos.line) = true) : PD X Z.T W (eMth gmPop φ α) (.Call (.Attribute o "pop" apos) [e] [] pos) :=
  pd_mth (fun ty g h => by
    unfold gmPop at h
    split at h
    · rename_i et
      subst et
      cases h
      exact ⟨"list.pop", PySem.F.plainAttrs_list, PySem.F.slot_list_pop, PySem.F.type_list_pop, mg_pop⟩
    · cases h) ho ha hb hs (by simp) hl
theorem m_pop0 (ho : PD X Z.T W φ o) (hb : baseB o = true) (hl : (apos.endLine == pos.line) = true) : PD X Z.T W (eMth gmPop φ aNil) (.Call (.Attribute o "pop" apos) [] [] pos) :=
  pd_mth0 (fun ty g h => by
    unfold gmPop at h
    split at h
    · rename_i et
      subst et
      cases h
      exact ⟨"list.pop", PySem.F.plainAttrs_list, PySem.F.slot_list_pop, PySem.F.type_list_pop, mg_pop⟩
    · cases h) ho hb hl
theorem m_get (g : Gd Z k N sc X W) (ho : PD X Z.T W φ o) (ha : AD X Z.T W α [e, a]) (hb : baseB o = true) (hs : [e, a].any starB = false) (hl : (apos.endLine == pos.line) = true) : PD X Z.T W (eMth gmGet φ α) (.Call (.Attribute o "get" apos) [e, a] [] pos) :=
  pd_mth (fun ty f h => by
    unfold gmGet at h
    split at h
    · rename_i et
      subst et
      cases h
      exact ⟨"dict.get", PySem.F.plainAttrs_dict, PySem.F.slot_dict_get, PySem.F.type_dict_get, mg_get (by have := g.ok.hu; omega)⟩
    · cases h) ho ha hb hs (by simp) hl
/-! the defs -/
structure DefAt (Z : Wd) (x : Str) (st : Stmt) (f : Addr) (fd : FuncData) : Prop where
  fn : Fun Z.K x x st f fd
  mg : Z.mg x = some (.ref f)
theorem FnG.mono {f : Addr} {fd : FuncData} {ps : List Str} {fs : FS} {j : Nat} (F : FnG Z j f fd ps fs) (h : j ≤ k) : FnG Z k f fd ps fs :=
  fun A outer s H args vs us ds G L M Q E hr => F A outer s H args vs us ds G L M Q E ⟨hr.room.mono h, hr.g⟩
theorem def_ok {st : Stmt} {f : Addr} {fd : FuncData} {ps : List Str} {χ : SFn} (F : DefAt Z x st f fd) (S : FnScope N ps (defScope st)) (hb : ∀ X E, Gs Z k N (defScope st) X (WE E) → BD X Z.T (WE E) U χ (defBody st)) : FnG Z (k + 1) f fd ps (defF N.length χ) := by
  obtain ⟨oc, od, kV, doc, pm, an, cdv, ct, osl, rfl, lk, hcd⟩ := F.fn.ex
  exact fng_of lk hcd S hb
/-- all parameters are written, by position -/
theorem binds_pos {st : Stmt} {f : Addr} {fd : FuncData} {ps : List Str} {n : Nat} {plan : List Src} (F : DefAt Z x st f fd) (hl : plan.length = ps.length) (hp : ∀ us : List Value, us.length = n → planU [] us plan = us)  (hdf : ∀ j d, Src.df j d ∉ plan)
    (h : ∀ (kV doc pm : Value) (an : Option Addr) (cdv ct : Value) (us : List Value), us.length = n → bindArgs (PySem.W.fnOf x x (defArgs st) (defBody st) (defScope st) .none kV doc pm an cdv ct) ⟨us, []⟩ = pure (ps.zip us)) : BindsG Z.K fd ps n [] plan := by
  obtain ⟨oc, od, kV, doc, pm, an, cdv, ct, osl, rfl, lk, hcd⟩ := F.fn.ex
  refine ⟨hl, [], fun j d hm => absurd hm (hdf j d), fun s us ws _ h1 h2 => ?_⟩
  cases ws with
  | nil =>
    rw [List.append_nil, hp us h1]
    exact .of_eq (h kV doc pm an cdv ct us h1)
  | cons _ _ => cases h2
end
end Cb

set_option Elab.async false
set_option linter.all false
set_option maxRecDepth 100000
/-! Cb, part N: the law's own call. -/
namespace Cb
open PySem PySem.Spec PyProof.Rows L2

theorem rp_ints {K : PySem.W.Frag} {H : Hp} {Fb : Addr → Prop} : ∀ ns : List Int, RpAll K H Fb (ns.map V.int) (ns.map PyData.int)
  | [] => .nil
  | n :: ns => .cons (.int n) (rp_ints ns)
theorem mr_none {K : PySem.W.Frag} {H : Hp} : MR K H (fun _ => False) [] [] :=
  ⟨rfl, List.nodup_nil, fun _ h => (nomatch h), fun _ h => (nomatch h), fun _ h => h.elim, fun n a o h => by simp at h⟩
section
variable {P : Program} {w : World} {K : PySem.W.Frag} {T : Tb} {mg mb : Str → Option Value} {k : Nat} {f a : Addr} {fd : FuncData} {x : Str} {fs : FS} {s : Shared} {us : List Value} {ns : List Int} {M' : Mem}
/-- the script's own object -/
abbrev scriptObj (us : List Value) : Obj := { cls := .type "list", data := .seq us.toArray }
theorem run_law {H : Hp} (kin : K.In s.heap) (nsG : s.heap.Ns mainGlobals mg) (nsB : s.heap.Ns builtinsNs mb) (bl : ∀ y : Str, y ≠ "__name__" → mb y = bootBuiltins y) (lim : s.heap.NoLimit) (gens : s.gens = #[]) (at_ : s.heap.get? a = some (scriptObj us))
    (room : RoomG k callerA) (F : ∀ base : Heap, K.In base → base.Ns mainGlobals mg → FnG ⟨P, w, K, mg, base, T⟩ k f fd [x] fs) (hb : ∀ u : Value, BindsTo s fd ⟨[u], []⟩ [(x, u)]) (hfs : fs [.frz (ns.map .int)] [] = .ok (.d (.p (.bool true))) M')
    (ok : HOk P w H s.heap) (fl : FL K H (fun _ => False) a (ns.map V.int)) (one : ∀ b u, H b = some u → b = a ∧ ∃ o ys, u = .frz o (.lst ys)) (apart : ∀ o, K.lookup a = some o → H a = none) :
    codeAny (model P w) callerA (.call (.ref f) ⟨[.ref a], []⟩) (fun r s' => r = .ok (.ret (.bool true)) ∧ PySem.OldK s.heap s'.heap ∧ s'.os = s.os ∧ AllBare s'.gens) s := by
  -- what is not the script lies in the base
  have inB : ∀ {b : Addr} {o : Obj}, s.heap.get? b = some o → (b = a → H a = none) → (hidT s.heap H).get? b = some o := fun {b o} e h => by
    refine hidT_get e ?_
    cases q : H b with
    | none => rfl
    | some u =>
      have z := (one b u q).1
      rw [z, h z] at q
      cases q
  have names : ∀ {b : Addr} {m : Str → Option Value}, s.heap.Ns b m → (hidT s.heap H).Ns b m := fun {b m} ⟨o, es, ep, e, dd, r⟩ => by
    refine ⟨o, es, ep, inB e fun z => ?_, dd, r⟩
    rw [z, at_] at e
    cases e
    cases (show Data.seq us.toArray _ = Data.dict es ep from dd)
  have kB : K.In (hidT s.heap H) := fun b o e => inB (kin b o e) fun z => apart o (by rw [← z]; exact e)
  have md : Mod K mg (hidT s.heap H) := ⟨kB, names nsG, ⟨mb, names nsB, bl⟩, let ⟨mc, l1, l2⟩ := lim; ⟨mc, names l1, l2⟩⟩
  have e0 : Env0 P w K mg (hidT s.heap H) callerA [] s H := ⟨rfl, md, fun b o e => of_hidT e, Nat.le_of_eq (hidT_size _ _), trivial, fun b hm => (nomatch (show b ∈ ([] : List Addr) from hm)), ok, .of_eq gens⟩
  have post : Post K T H (fun _ => False) [] [] (fs [.frz (ns.map .int)] []) (fun v _ => v = .bl true) (fun _ _ _ => False) := by
    rw [hfs]
    intro v H' L' _ _ r
    exact r.bool
  have fl2 : FL K H (Fbd [] [] fun _ => False) a (ns.map V.int) := fl.ext ⟨fun b o e h => ⟨e, fun z => z.elim (fun ⟨n, o, q, _⟩ => by simp at q) h⟩⟩
  refine codeAny_mono (F _ kB (names nsG) callerA [] s H ⟨[.ref a], []⟩ [.ref a] [.ref a] [.frz (ns.map .int)] _ [] [] _ _ room e0 (hb (.ref a)) (.cons rfl .nil) rfl mr_none (.cons (.frz fl2 (rp_ints ns)) .nil) post) fun r s' h => ?_
  cases r with
  | error e =>
    obtain ⟨_, _, _, _, _, _, _, _, _, _, _, _, z⟩ := h
    exact z.elim
  | ok c =>
    cases c with
    | ret u =>
      obtain ⟨v, H', os, bare, un, ok', rv, q⟩ := h
      have q : v = .bl true := q
      subst q
      cases (show u = Value.bool true from rv)
      refine ⟨rfl, PySem.OldK.of_keep fun b o e => ?_, os, bare⟩
      cases q : H b with
      | none => exact un.keep b o e q (by simp [frs]) (by simp)
      | some u =>
        obtain ⟨_, ob, ys, rfl⟩ := one b u q
        have e1 := (ok b _ q).1
        rw [e] at e1
        cases e1
        exact (ok' b _ (un.frzs b _ _ q)).1
    | next => exact False.elim h
    | brk => exact False.elim h
    | cont => exact False.elim h
/-- THE HEAD -/
theorem law_head (kin : K.In s.heap) (nsG : s.heap.Ns mainGlobals mg) (nsB : s.heap.Ns builtinsNs mb) (bl : ∀ y : Str, y ≠ "__name__" → mb y = bootBuiltins y) (lim : s.heap.NoLimit) (gens : s.gens = #[]) (at_ : s.heap.get? a = some (scriptObj us))
    (hi : IntsAre us ns) (hz : ns.length ≤ sizeLine) (room : RoomG k callerA) (F : ∀ base : Heap, K.In base → base.Ns mainGlobals mg → FnG ⟨P, w, K, mg, base, T⟩ k f fd [x] fs) (hb : ∀ u : Value, BindsTo s fd ⟨[u], []⟩ [(x, u)]) (hfs : fs [.frz (ns.map .int)] [] = .ok (.d (.p (.bool true))) M') :
    codeAny (model P w) callerA (.call (.ref f) ⟨[.ref a], []⟩) (fun r s' => r = .ok (.ret (.bool true)) ∧ PySem.OldK s.heap s'.heap ∧ s'.os = s.os ∧ AllBare s'.gens) s := by
  have rv := vals_ints hi
  have lz : us.length = ns.length := hi.length
  cases hk : K.lookup a with
  | some o =>
    have e := kin a o hk
    rw [at_] at e
    cases e
    exact run_law (H := fun _ => none) kin nsG nsB bl lim gens at_ room F hb hfs (fun b u z => by cases z) (.inr ⟨_, us.toArray, _, hk, rfl, rfl, rfl, by rw [List.size_toArray, lz]; exact hz, by simpa using rv⟩) (fun b u z => by cases z) fun _ _ => rfl
  | none =>
    refine run_law (H := fun b => if b = a then some (.frz (scriptObj us) (.lst (ns.map V.int))) else none) kin nsG nsB bl lim gens at_ room F hb hfs (fun b u z => ?_) (.inl ⟨.inr ⟨scriptObj us, if_pos rfl⟩, id⟩) (fun b u z => ?_) fun o e => by rw [hk] at e; cases e
    · by_cases hb : b = a
      · have z' := (if_pos hb).symm.trans z
        cases z'
        subst hb
        exact ⟨at_, by rw [List.length_map]; exact hz, us, _, rv, at_⟩
      · have z' := (if_neg hb).symm.trans z
        cases z'
    · by_cases hb : b = a
      · have z' := (if_pos hb).symm.trans z
        cases z'
        exact ⟨hb, _, _, rfl⟩
      · have z' := (if_neg hb).symm.trans z
        cases z'
end
/-- what k_head leaves -/
theorem walk_g {l : PySem.W.OpenLaw} {n k : Nat} {q : Program} {loose : List Str} {XP : (Str → Option Value) → Heap → Prop} {YP : World → Heap → Prop} {d : DefRec} {K : Params → PySem.W.Frag} {x : Str} {fs : FS}
    (hn : l.most = some n) (hn2 : n ≤ sizeLine) (hdf : d.params.defaults = []) (hr : Room k callerA) (hY : ∀ (w : World) (h : Heap), YP w h → (K w.params).In h)
    (F : ∀ (w : World) (mg : Str → Option Value) (fa : Addr) (h : Heap), (K w.params).In h → h.Ns mainGlobals mg → mg d.name = some (.ref fa) →
      ∃ (fd : FuncData) (T : Tb), (∀ (s : Shared) (u : Value), BindsTo s fd ⟨[u], []⟩ [(x, u)]) ∧ ∀ base : Heap, (K w.params).In base → base.Ns mainGlobals mg → FnG ⟨l.prog, w, K w.params, mg, base, T⟩ k fa fd [x] fs)
    (hfs : ∀ ns : List Int, ns.length ≤ n → ∃ M', fs [.frz (ns.map .int)] [] = .ok (.d (.p (.bool true))) M') :
    PySem.W.WalkO q loose XP YP l.row.toRowW d [] (fun f vs => PySem.call f vs) := by
  refine Att.attach_call hn hdf fun w s₀ s₁ mg mb fa o pm cd doc a vs ns G Y ho hd hcd hmg hobj hints hlen hg => ?_
  have kin := hY w _ Y
  obtain ⟨fd, T, hb, hF⟩ := F w mg fa _ kin G.T.g hmg
  obtain ⟨M', e⟩ := hfs ns hlen
  exact law_head kin G.T.g G.T.b G.T.builtins G.T.nolimit hg hobj hints (Nat.le_trans hlen hn2) ⟨hr, rfl⟩ hF (fun u => hb s₁ u) e
end Cb

set_option Elab.async false
set_option linter.all false
set_option maxRecDepth 100000
/-! Cb, part O: pairs of names. -/
namespace Cb
open PySem PySem.Spec PyProof.Rows L2
def strd : Expr → Bool
  | .Starred .. => true
  | _ => false
theorem sw2 {x y : Str} {a b : Expr} {px py pt pt2 : Pos} {kt k2 : Nat} (hxy : decide (x = y) = false) (hl : (py.line == px.line) = true) (ha : strd a = false) (hb : strd b = false) (hf : [a, b].all (foldedForSure 8) = false) (hc : [a, b].all (constantsAlone 8) = false) :
    ∀ env : PySem.Env, env.blockKind = .function → env.kindOf x = some .local → env.kindOf y = some .local → swappedStores [.Tuple [.Name x px, .Name y py] kt pt] (.Tuple [a, b] k2 pt2) env = pure (some [x, y]) := by
  intro env h1 h2 h3
  have hl' : py.line = px.line := by simpa using hl
  have ne : x ≠ y := of_decide_eq_false hxy
  have e1 : [x, y].eraseDups = [x, y] := by
    have : (y == x) = false := by simpa using fun z => ne z.symm
    simp [List.eraseDups, List.eraseDupsBy, List.eraseDupsBy.loop, this]
  have k1 : (some NameKind.local == some NameKind.local && px.line == (Expr.Name x px).pos.line) = true := by
    have : (Expr.Name x px).pos = px := rfl
    rw [this]
    simp
  unfold swappedStores
  simp only [h1, h2, h3, List.filterMap_cons, List.filterMap_nil, List.head?_cons, Option.map_some, Option.getD_some, hl', hf, hc, List.any_cons, List.any_nil, List.length_cons, List.length_nil]
  rw [if_pos k1]
  simp only [if_pos k1, e1]
  rw [if_neg (by decide), if_neg ?side]
  · rfl
  · rw [Bool.or_eq_true, Bool.or_eq_true, not_or, not_or]
    refine ⟨?_, ?_, by decide⟩
    · cases a <;> first
        | exact Bool.noConfusion ha
        | exact Bool.false_ne_true
    · cases b <;> first
        | exact Bool.noConfusion hb
        | exact Bool.false_ne_true
/-- one of the names is shared with a block: stored from the left -/
theorem sw2n {x y : Str} {a b : Expr} {px py pt pt2 : Pos} {kt k2 : Nat} : ∀ env : PySem.Env, env.kindOf x ≠ some .local ∨ env.kindOf y ≠ some .local → swappedStores [.Tuple [.Name x px, .Name y py] kt pt] (.Tuple [a, b] k2 pt2) env = pure none := by
  intro env h
  unfold swappedStores
  rcases h with h | h
  · have e : (env.kindOf x == some NameKind.local) = false := by simpa using h
    simp only [List.filterMap_cons, List.filterMap_nil, e, Bool.false_and, Bool.false_eq_true, if_false]
    cases (env.kindOf y == some NameKind.local && py.line == (([Expr.Name x px, Expr.Name y py].head?.map (·.pos.line)).getD 0)) <;> (repeat' split) <;> first | rfl | (exfalso; simp_all; done)
  · have e : (env.kindOf y == some NameKind.local) = false := by simpa using h
    simp only [List.filterMap_cons, List.filterMap_nil, e, Bool.false_and, Bool.false_eq_true, if_false]
    cases (env.kindOf x == some NameKind.local && px.line == (([Expr.Name x px, Expr.Name y py].head?.map (·.pos.line)).getD 0)) <;> (repeat' split) <;> first | rfl | (exfalso; simp_all; done)
section
variable {Z : Wd} {k : Nat} {N : List Str} {sc : Scope} {X : Cx} {W : WX} {x y : Str} {α : AFn} {a b : Expr} {pos px py pt pt2 : Pos} {kt k2 i j : Nat} {U : List Nat}
theorem Gd.nx (g : Gd Z k N sc X W) : Gd Z k N sc X Wn := ⟨g.hP, g.hw, g.hK, g.hm, g.hb, g.hN, g.hs, g.ok, g.room, fun u s' ⟨_, _, _, _, _, _, _, _, _, _, _, _, _, _, _, _, h⟩ => False.elim h⟩
theorem g_parN (g : Gs Z k N sc X W) (hui : i ∈ U) (huj : j ∈ U) (hi : N[i]? = some x) (hj : N[j]? = some y) (hx : locB sc x = true) (hy : locB sc y = true) (hc : ((sc.names.lookup x == some NameKind.local) && (sc.names.lookup y == some NameKind.local)) = false) (ha : AD X Z.T W α [a, b]) :
    SD X Z.T W U (sPar i j α) (.Assign [.Tuple [.Name x px, .Name y py] kt pt] (.Tuple [a, b] k2 pt2) pos) := by
  have lx : Loc X.env.scope x := by rw [g.hs]; exact loc_of hx
  have ly : Loc X.env.scope y := by rw [g.hs]; exact loc_of hy
  have two : PGs X [.Name x px, .Name y py] (gCons (gName i) (gCons (gName j) gNil)) := pgs_cons (pg_name g.ok.nd (by rw [g.hN]; exact hi) lx (.inl (g.fn x))) (pgs_cons (pg_name g.ok.nd (by rw [g.hN]; exact hj) ly (.inl (g.fn y))) pgs_nil)
  have dif : X.env.kindOf x ≠ some .local ∨ X.env.kindOf y ≠ some .local := by
    by_cases h1 : X.env.kindOf x = some .local
    · refine .inr fun h2 => ?_
      have e1 : sc.names.lookup x = some .local := by rw [← g.hs]; exact h1
      have e2 : sc.names.lookup y = some .local := by rw [← g.hs]; exact h2
      rw [e1, e2] at hc
      cases hc
    · exact .inl h1
  refine PS.imp' (ps_asg (pe_tup ha) (pg_tup g.ok.calm two) rfl (sw2n _ dif)) fun D σ H h => ?_
  obtain ⟨ρ, G, L, M, sr, h⟩ := h
  refine ⟨ρ, G, L, M, sr, (PostA.bindS h).mono fun vs H1 ⟨ds, L1, M1, n1, m1, r1, h1⟩ => ?_⟩
  split at h1
  · cases r1 with
    | @cons v1 _ _ _ a1 a2 =>
    cases a2 with
    | @cons v2 _ _ _ b1 b2 =>
    cases b2
    refine ⟨by rw [sizeLine_eq]; simp, fun p hp => ⟨p, _, rfl, .inl (.inl upd_same), rfl, v1, _, rfl, v2, _, rfl, rfl, ?_⟩⟩
    have nf : Nxt H1 L1 M1 (upd H1 p (.tup [v1, v2])) L1 M1 := Nxt.fresh hp
    have mf : MR X.K (upd H1 p (.tup [v1, v2])) G L1 M1 := m1.fresh hp
    exact h1 _ _ L1 nf ((((sr.ext n1 m1).ext nf mf).set (a1.ext nf)).set (b1.ext nf)) ((Agr.set hui).trans (.set huj))
  · exact h1.elim
end
theorem binds_kw {Z : Wd} {x : Str} {st : Stmt} {f : Addr} {fd : FuncData} {ps ks : List Str} {n : Nat} {plan : List Src} (F : DefAt Z x st f fd) (hl : plan.length = ps.length) (hdf : ∀ j d, Src.df j d ∉ plan)
    (h : ∀ (kV doc pm : Value) (an : Option Addr) (cdv ct : Value) (us ws : List Value), us.length = n → ws.length = ks.length → bindArgs (PySem.W.fnOf x x (defArgs st) (defBody st) (defScope st) .none kV doc pm an cdv ct) ⟨us, ks.zip ws⟩ = pure (ps.zip (planU [] (us ++ ws) plan))) : BindsG Z.K fd ps n ks plan := by
  obtain ⟨oc, od, kV, doc, pm, an, cdv, ct, osl, rfl, lk, hcd⟩ := F.fn.ex
  exact ⟨hl, [], fun j d hm => absurd hm (hdf j d), fun s us ws _ h1 h2 => .of_eq (h kV doc pm an cdv ct us ws h1 h2)⟩
end Cb

set_option Elab.async false
set_option linter.all false
set_option maxRecDepth 100000
/-! Cm, part A: what the meanings give, by what is wanted behind them. -/
namespace Cb
open PySem PySem.Spec PyProof.Rows L2

def Ok {α : Type} (r : Res α) (Q : α → Mem → Prop) : Prop := match r with
  | .ok a M => Q a M
  | _ => False
@[simp] theorem Ok_ok {α : Type} (a : α) (M : Mem) (Q : α → Mem → Prop) : Ok (.ok a M) Q = Q a M := rfl
@[simp] theorem Ok_bad {α : Type} (Q : α → Mem → Prop) : Ok (.bad : Res α) Q = False := rfl
@[simp] theorem Ok_err {α : Type} (x : Xc) (M : Mem) (Q : α → Mem → Prop) : Ok (.err x M : Res α) Q = False := rfl
@[simp] theorem Ok_bind {α β : Type} (r : Res α) (f : α → Mem → Res β) (Q : β → Mem → Prop) : Ok (r.bind f) Q = Ok r fun a M => Ok (f a M) Q := by
  cases r <;> rfl
@[simp] theorem Ok_map {α β : Type} (r : Res α) (f : α → β) (Q : β → Mem → Prop) : Ok (r.map f) Q = Ok r fun a M => Q (f a) M := by
  cases r <;> rfl
@[simp] theorem Ok_stl (r : Res Ev) (Q : D → Mem → Prop) : Ok (stl r) Q = Ok r fun e M => Q e.stl M := Ok_map r _ Q
@[simp] theorem Ok_ne {α : Type} (r : Res α) (Q : α → Mem → Prop) : Ok (ne r) Q = Ok r Q := by
  cases r <;> rfl
@[simp] theorem Ok_ite {α : Type} (c : Prop) [Decidable c] (r s : Res α) (Q : α → Mem → Prop) : Ok (if c then r else s) Q = if c then Ok r Q else Ok s Q := by
  split <;> rfl
theorem Ok.mono {α : Type} {r : Res α} {Q Q' : α → Mem → Prop} (h : Ok r Q) (i : ∀ a M, Q a M → Q' a M) : Ok r Q' := by
  cases r with
  | ok a M => exact i a M h
  | err _ _ => exact h
  | bad => exact h
theorem Ok.get {α : Type} {r : Res α} {Q : α → Mem → Prop} (h : Ok r Q) : ∃ a M, r = .ok a M ∧ Q a M := by
  cases r with
  | ok a M => exact ⟨a, M, rfl, h⟩
  | err _ _ => exact h.elim
  | bad => exact h.elim
@[simp] theorem Ok_ofO (r : Option Ev) (M : Mem) (Q : Ev → Mem → Prop) : Ok (ofO r M) Q = ∃ x, r = some x ∧ Q x M := by
  cases r with
  | none => simp [ofO]
  | some x => simp [ofO]
@[simp] theorem Ok_ofM (r : Option (Ev × Mem)) (Q : Ev → Mem → Prop) : Ok (ofM r) Q = ∃ x N, r = some (x, N) ∧ Q x N := by
  cases r with
  | none => simp [ofM]
  | some x => obtain ⟨x, N⟩ := x; exact propext ⟨fun h => ⟨x, N, rfl, h⟩, fun ⟨y, N', e, h⟩ => by cases e; exact h⟩
/-- the rest of a block, not looked at before its turn -/
def Seq (r : SFn) (QS : Out → Mem → Prop) : Out → Mem → Prop := fun o M1 => match o with
  | .nx ρ' => Ok (r ρ' M1) QS
  | .bk ρ' => QS (.bk ρ') M1
  | .ct ρ' => QS (.ct ρ') M1
  | .rt e => QS (.rt e) M1
theorem Seq_nx (r : SFn) (QS : Out → Mem → Prop) (ρ : Env) (M : Mem) : Seq r QS (.nx ρ) M = Ok (r ρ M) QS := rfl
theorem Seq_bk (r : SFn) (QS : Out → Mem → Prop) (ρ : Env) (M : Mem) : Seq r QS (.bk ρ) M = QS (.bk ρ) M := rfl
theorem Seq_ct (r : SFn) (QS : Out → Mem → Prop) (ρ : Env) (M : Mem) : Seq r QS (.ct ρ) M = QS (.ct ρ) M := rfl
theorem Seq_rt (r : SFn) (QS : Out → Mem → Prop) (e : Ev) (M : Mem) : Seq r QS (.rt e) M = QS (.rt e) M := rfl
/-- two ways, not looked at before it is known which -/
def Br {α : Type} (b : Bool) (r s : Res α) (Q : α → Mem → Prop) : Prop := if b = true then Ok r Q else Ok s Q
theorem Br_true {α : Type} (r s : Res α) (Q : α → Mem → Prop) : Br true r s Q = Ok r Q := rfl
theorem Br_false {α : Type} (r s : Res α) (Q : α → Mem → Prop) : Br false r s Q = Ok s Q := rfl
theorem Br.by {α : Type} {b : Bool} {r s : Res α} {Q : α → Mem → Prop} (h1 : b = true → Ok r Q) (h2 : b = false → Ok s Q) : Br b r s Q := by
  cases b with
  | true => exact h1 rfl
  | false => exact h2 rfl
section
variable (ρ : Env) (M : Mem) (φ ψ χ : PFn) (α β : AFn) (t u : TFn) (s r : SFn) (Q : Ev → Mem → Prop) (QT : Bool → Mem → Prop) (QA : List D → Mem → Prop) (QS : Out → Mem → Prop)
@[simp] theorem ok_eBin (g : D → D → Mem → Option Ev) : Ok (eBin g φ ψ ρ M) Q = Ok (φ ρ M) fun x M1 => Ok (ψ ρ M1) fun y M2 => ∃ z, g x.stl y.stl M2 = some z ∧ Q z M2 := by
  simp only [eBin, Ok_bind, Ok_stl, Ok_ofO]
@[simp] theorem ok_eUn (g : D → Mem → Option Ev) : Ok (eUn g φ ρ M) Q = Ok (φ ρ M) fun x M1 => ∃ z, g x.stl M1 = some z ∧ Q z M1 := by
  simp only [eUn, Ok_bind, Ok_stl, Ok_ofO]
@[simp] theorem ok_eVar (i : Nat) : Ok (eVar i ρ M) Q = ∃ x, ρ[i]? = some (some x) ∧ Q (.d x) M := by
  unfold eVar
  split
  · rename_i x e; simp [e]
  · rename_i h
    simp only [Ok_bad, eq_iff_iff, false_iff, not_exists, not_and]
    exact fun x e => (h x e).elim
@[simp] theorem ok_eD (d : D) : Ok (eD d ρ M) Q = Q (.d d) M := rfl
@[simp] theorem ok_eIf : Ok (eIf t φ ψ ρ M) Q = Ok (t ρ M) fun b M1 => Br b (φ ρ M1) (ψ ρ M1) Q := by
  simp only [eIf, Ok_bind, Ok_ite, Br]
@[simp] theorem ok_tVal : Ok (tVal φ ρ M) QT = Ok (φ ρ M) fun x M1 => ∃ b, x.stl = .p (.bool b) ∧ QT b M1 := by
  simp only [tVal, Ok_bind, Ok_stl]
  congr 1
  funext e M1
  cases e.stl with
  | p d => cases d <;> simp [asB]
  | _ => simp [asB]
@[simp] theorem ok_tNot : Ok (tNot t ρ M) QT = Ok (t ρ M) fun b M1 => QT (!b) M1 := by
  simp only [tNot, Ok_map]
@[simp] theorem ok_tAnd : Ok (tAnd t u ρ M) QT = Ok (t ρ M) fun b M1 => Br b (u ρ M1) (.ok false M1) QT := by
  simp only [tAnd, Ok_bind, Ok_ite, Br]
@[simp] theorem ok_tOr : Ok (tOr t u ρ M) QT = Ok (t ρ M) fun b M1 => Br b (.ok true M1) (u ρ M1) QT := by
  simp only [tOr, Ok_bind, Ok_ite, Br]
@[simp] theorem ok_tTrue : Ok (tTrue ρ M) QT = QT true M := rfl
@[simp] theorem ok_aNil : Ok (aNil ρ M) QA = QA [] M := rfl
@[simp] theorem ok_aCons : Ok (aCons φ α ρ M) QA = Ok (φ ρ M) fun x M1 => Ok (α ρ M1) fun xs M2 => QA (x.stl :: xs) M2 := by
  simp only [aCons, Ok_bind, Ok_stl, Ok_ok]
@[simp] theorem ok_eTup : Ok (eTup α ρ M) Q = Ok (α ρ M) fun ds M1 => ∃ xs M2, purs ds M1 = some (xs, M2) ∧ xs.length ≤ sizeLine ∧ Q (.d (.p (.tuple xs))) M2 := by
  simp only [eTup, Ok_bind]
  congr 1
  funext ds M1
  cases e : purs ds M1 with
  | none => simp
  | some x =>
    obtain ⟨xs, M2⟩ := x
    refine propext ⟨fun h => ?_, fun ⟨ys, M3, e, hz, h⟩ => ?_⟩
    · simp only [Ok_ite, Ok_ok, Ok_bad] at h
      split at h
      · exact ⟨xs, M2, rfl, by assumption, h⟩
      · exact h.elim
    · cases e
      simp only [if_pos hz, Ok_ok]
      exact h
@[simp] theorem ok_eLst : Ok (eLst α ρ M) Q = Ok (α ρ M) fun ds M1 => ∃ xs M2, purs ds M1 = some (xs, M2) ∧ xs.length ≤ sizeLine ∧ Q (.new (.lst xs)) M2 := by
  simp only [eLst, Ok_bind]
  congr 1
  funext ds M1
  cases e : purs ds M1 with
  | none => simp
  | some x =>
    obtain ⟨xs, M2⟩ := x
    refine propext ⟨fun h => ?_, fun ⟨ys, M3, e, hz, h⟩ => ?_⟩
    · simp only [Ok_ite, Ok_ok, Ok_bad] at h
      split at h
      · exact ⟨xs, M2, rfl, by assumption, h⟩
      · exact h.elim
    · cases e
      simp only [if_pos hz, Ok_ok]
      exact h
@[simp] theorem ok_eCallB (g : List D → Mem → Option (Ev × Mem)) : Ok (eCallB g α ρ M) Q = Ok (α ρ M) fun ds M1 => ∃ z N, g ds M1 = some (z, N) ∧ Q z N := by
  simp only [eCallB, Ok_bind, Ok_ofM]
@[simp] theorem ok_eSl (l u : OFn) : Ok (eSl φ l u ρ M) Q = Ok (φ ρ M) fun x M1 => Ok (l ρ M1) fun i M2 => Ok (u ρ M2) fun j M3 => ∃ z, dSl i j x.stl M3 = some z ∧ Q z M3 := by
  simp only [eSl, Ok_bind, Ok_stl, Ok_ofO]
@[simp] theorem ok_oNone (QO : Option Int → Mem → Prop) : Ok (oNone ρ M) QO = QO none M := rfl
@[simp] theorem ok_oSome (QO : Option Int → Mem → Prop) : Ok (oSome φ ρ M) QO = Ok (φ ρ M) fun x M1 => ∃ i, x.stl = .p (.int i) ∧ QO (some i) M1 := by
  simp only [oSome, Ok_bind, Ok_stl]
  congr 1
  funext e M1
  cases e.stl with
  | p d => cases d <;> simp [asI]
  | _ => simp [asI]
@[simp] theorem ok_asB (x : D) : Ok (asB x M) QT = ∃ b, x = .p (.bool b) ∧ QT b M := by
  cases x with
  | p d => cases d <;> simp [asB]
  | _ => simp [asB]
@[simp] theorem ok_eNot : Ok (eNot φ ρ M) Q = Ok (φ ρ M) fun x M1 => ∃ b, x.stl = .p (.bool b) ∧ Q (.d (.p (.bool (!b)))) M1 := by
  simp only [eNot, Ok_bind, Ok_stl, ok_asB, Ok_ok]
@[simp] theorem ok_eAnd : Ok (eAnd φ ψ ρ M) Q = Ok (φ ρ M) fun x M1 => ∃ b, x.stl = .p (.bool b) ∧ Br b (ψ ρ M1) (.ok (.d (.p (.bool false))) M1) Q := by
  simp only [eAnd, Ok_bind, Ok_stl, ok_asB, Ok_ite, Br]
@[simp] theorem ok_eOr : Ok (eOr φ ψ ρ M) Q = Ok (φ ρ M) fun x M1 => ∃ b, x.stl = .p (.bool b) ∧ Br b (.ok (.d (.p (.bool true))) M1) (ψ ρ M1) Q := by
  simp only [eOr, Ok_bind, Ok_stl, ok_asB, Ok_ite, Br]
@[simp] theorem ok_eAl : Ok (eAl φ ρ M) Q = Ok (φ ρ M) fun e M1 => match e with
    | .d x => Q (.d x) M1
    | .new o => Q (.d (.obj M1.length)) (M1 ++ [o]) := by
  simp only [eAl, Ok_bind]
  congr 1
  funext e M1
  cases e <;> rfl
/-- a call: what the def gives -/
@[simp] theorem ok_eCallU (fs : FS) (n m : Nat) (plan : List Src) : Ok (eCallU fs n m plan α β ρ M) Q = Ok (α ρ M) fun ds M1 => Ok (β ρ M1) fun es M2 => (ds.length = n ∧ es.length = m) ∧ ∃ bs, planD plan (ds ++ es) = some bs ∧ Ok (fs bs M2) Q := by
  simp only [eCallU, Ok_bind]
  congr 1
  funext ds M1
  congr 1
  funext es M2
  by_cases hl : ds.length = n ∧ es.length = m
  · rw [if_pos hl]
    cases e : planD plan (ds ++ es) with
    | none => simp
    | some bs => simp [hl]
  · rw [if_neg hl]
    simp [hl]
/-- a method -/
@[simp] theorem ok_eMth (gm : String → Option (D → List D → Mem → Option (Ev × Mem))) : Ok (eMth gm φ α ρ M) Q = Ok (φ ρ M) fun x M1 => ∃ ty, kindD x.stl M1 = some ty ∧ ∃ g, gm ty = some g ∧ Ok (α ρ M1) fun ds M2 => ∃ z N, g x.stl ds M2 = some (z, N) ∧ Q z N := by
  simp only [eMth, Ok_bind, Ok_stl]
  congr 1
  funext e M1
  cases e1 : kindD e.stl M1 with
  | none => simp
  | some ty =>
    cases e2 : gm ty with
    | none => simp [e2]
    | some g =>
      simp only [e2, Ok_bind, Ok_ofM, Option.some.injEq]
      refine propext ⟨fun h => ⟨ty, rfl, g, e2, h⟩, fun ⟨ty', a, g', b, h⟩ => ?_⟩
      subst a
      rw [e2] at b
      cases b
      exact h
/-! statements -/
@[simp] theorem ok_sSeq : Ok (sSeq s r ρ M) QS = Ok (s ρ M) (Seq r QS) := by
  simp only [sSeq, thenS, Ok_bind]
  congr 1
  funext o M1
  cases o <;> rfl
@[simp] theorem ok_sNx : Ok (sNx ρ M) QS = QS (.nx ρ) M := rfl
@[simp] theorem ok_sBk : Ok (sBk ρ M) QS = QS (.bk ρ) M := rfl
@[simp] theorem ok_sCt : Ok (sCt ρ M) QS = QS (.ct ρ) M := rfl
@[simp] theorem ok_sDrop : Ok (sDrop φ ρ M) QS = Ok (φ ρ M) fun _ M1 => QS (.nx ρ) M1 := by
  simp only [sDrop, Ok_bind, Ok_stl, Ok_ok]
@[simp] theorem ok_sRet : Ok (sRet φ ρ M) QS = Ok (φ ρ M) fun e M1 => QS (.rt e) M1 := by
  simp only [sRet, Ok_bind, Ok_ok]
@[simp] theorem ok_sRetN : Ok (sRetN ρ M) QS = QS (.rt (.d (.p .none))) M := rfl
@[simp] theorem ok_sIf : Ok (sIf t s r ρ M) QS = Ok (t ρ M) fun b M1 => Br b (s ρ M1) (r ρ M1) QS := by
  simp only [sIf, Ok_bind, Ok_ite, Br]
@[simp] theorem ok_sSet (i : Nat) : Ok (sSet i φ ρ M) QS = Ok (φ ρ M) fun e M1 => QS (.nx (ρ.set i (some e.stl))) M1 := by
  simp only [sSet, Ok_bind, Ok_stl, Ok_ok]
@[simp] theorem ok_sPar (i j : Nat) : Ok (sPar i j α ρ M) QS = Ok (α ρ M) fun ds M1 => ∃ x y, ds = [x, y] ∧ QS (.nx ((ρ.set i (some x)).set j (some y))) M1 := by
  simp only [sPar, Ok_bind]
  congr 1
  funext ds M1
  match ds with
  | [] => simp
  | [_] => simp
  | [x, y] => exact propext ⟨fun h => ⟨x, y, rfl, h⟩, fun ⟨_, _, e, h⟩ => by cases e; exact h⟩
  | _ :: _ :: _ :: _ => simp
@[simp] theorem ok_sSto (φo φi φv : PFn) : Ok (sSto φo φi φv ρ M) QS = Ok (φv ρ M) fun v M1 => Ok (φo ρ M1) fun o M2 => Ok (φi ρ M2) fun i M3 => ∃ M4, dSet o.stl i.stl v.stl M3 = some M4 ∧ QS (.nx ρ) M4 := by
  simp only [sSto, Ok_bind, Ok_stl]
  congr 1
  funext v M1
  congr 1
  funext o M2
  congr 1
  funext i M3
  cases e : dSet o.stl i.stl v.stl M3 <;> simp
@[simp] theorem ok_sFor (ι : IFn) (γ : GFn) (b e : SFn) : Ok (sFor ι γ b e ρ M) QS = Ok (ι ρ M) fun st M1 => Ok (forL st γ b e FUEL 0 ρ M1) QS := by
  simp only [sFor, Ok_bind]
@[simp] theorem ok_iE (QI : Stp → Mem → Prop) : Ok (iE φ ρ M) QI = Ok (φ ρ M) fun x M1 => ∃ st, iVal x.stl M1 = some st ∧ QI st M1 := by
  simp only [iE, Ok_bind, Ok_stl]
  congr 1
  funext e M1
  cases e1 : iVal e.stl M1 <;> simp [ofI]
@[simp] theorem ok_iRg (k : List D → Option Stp) (QI : Stp → Mem → Prop) : Ok (iRg k α ρ M) QI = Ok (α ρ M) fun ds M1 => ∃ st, k ds = some st ∧ QI st M1 := by
  simp only [iRg, Ok_bind]
  congr 1
  funext ds M1
  cases e1 : k ds <;> simp [ofI]
@[simp] theorem ok_eLc (ι : IFn) (γ : GFn) (vs : List Nat) : Ok (eLc ι γ t φ vs ρ M) Q = Ok (ι ρ M) fun st M1 => Ok (lcL st γ t φ vs FUEL 0 [] ρ M1) Q := by
  simp only [eLc, Ok_bind]
@[simp] theorem ok_defF (n : Nat) (ds : List D) (Q : Ev → Mem → Prop) : Ok (defF n s ds M) Q = Ok (s (startE n ds) M) fun o M1 => Ok (fin M.length (.ok o M1)) Q := by
  unfold defF
  cases s (startE n ds) M <;> rfl
end
theorem dAdd_int (i j : Int) (M : Mem) : dAdd (.p (.int i)) (.p (.int j)) M = some (.d (.p (.int (i + j)))) := rfl
theorem purs_p (d : P) (ds : List D) (M : Mem) : purs (.p d :: ds) M = (purs ds M).map fun x => (d :: x.1, x.2) := by
  rw [purs_cons_p]
  cases purs ds M <;> rfl
theorem planD_nil (ds : List D) : planD [] ds = some [] := rfl
theorem planD_at (i : Nat) (r : List Src) (ds : List D) : planD (.at i :: r) ds = (ds[i]?).bind fun x => (planD r ds).map fun xs => x :: xs := by
  show (match ds[i]?, planD r ds with
    | some x, some xs => some (x :: xs)
    | _, _ => none) = _
  cases ds[i]? with
  | none => rfl
  | some x => cases planD r ds <;> rfl
theorem planD_df (i : Nat) (d : P) (r : List Src) (ds : List D) : planD (.df i d :: r) ds = (planD r ds).map (D.p d :: ·) := rfl
theorem exists_some2 {α β : Type} (a : α) (b : β) (Q : α → β → Prop) : (∃ x y, some (a, b) = some (x, y) ∧ Q x y) = Q a b := propext ⟨fun ⟨_, _, e, h⟩ => by cases e; exact h, fun h => ⟨a, b, rfl, h⟩⟩
theorem exists_pair2 {α β : Type} (a : α) (b : β) (Q : α → β → Prop) : (∃ x y, (a, b) = (x, y) ∧ Q x y) = Q a b := propext ⟨fun ⟨_, _, e, h⟩ => by cases e; exact h, fun h => ⟨a, b, rfl, h⟩⟩
theorem le_line1 : (1 ≤ sizeLine) = True := eq_true (by rw [sizeLine_eq]; decide)
theorem le_line2 : (2 ≤ sizeLine) = True := eq_true (by rw [sizeLine_eq]; decide)
theorem le_line3 : (3 ≤ sizeLine) = True := eq_true (by rw [sizeLine_eq]; decide)
theorem le_line4 : (4 ≤ sizeLine) = True := eq_true (by rw [sizeLine_eq]; decide)
theorem le_line5 : (5 ≤ sizeLine) = True := eq_true (by rw [sizeLine_eq]; decide)
theorem le_line6 : (6 ≤ sizeLine) = True := eq_true (by rw [sizeLine_eq]; decide)
theorem le_line7 : (7 ≤ sizeLine) = True := eq_true (by rw [sizeLine_eq]; decide)
theorem le_line8 : (8 ≤ sizeLine) = True := eq_true (by rw [sizeLine_eq]; decide)
theorem le_line9 : (9 ≤ sizeLine) = True := eq_true (by rw [sizeLine_eq]; decide)
theorem le_line10 : (10 ≤ sizeLine) = True := eq_true (by rw [sizeLine_eq]; decide)
theorem le_line11 : (11 ≤ sizeLine) = True := eq_true (by rw [sizeLine_eq]; decide)
theorem le_line12 : (12 ≤ sizeLine) = True := eq_true (by rw [sizeLine_eq]; decide)
theorem exists_two {α : Type} (a b : α) (Q : α → α → Prop) : (∃ x y, [a, b] = [x, y] ∧ Q x y) = Q a b := propext ⟨fun ⟨_, _, e, h⟩ => by cases e; exact h, fun h => ⟨a, b, rfl, h⟩⟩
theorem fin_d (n : Nat) (d : P) (M : Mem) : fin n (.ok (.rt (.d (.p d))) M) = .ok (.d (.p d)) (M.take n) := rfl
end Cb

set_option Elab.async false
set_option linter.all false
set_option maxRecDepth 100000
/-! Cm, part C: the operations on data with a Lean type. -/
namespace Cb
open PySem PySem.Spec PyProof.Rows L2
open PySem.W (Datum DatumOrd Tup)

/-! ### whole numbers -/
theorem okP_int (i : Int) : okP (.int i) = true := by simp [okP, PyData.plain, PyData.depth]
theorem cmpOk_int (i j : Int) : cmpOk (.int i) (.int j) = true := by simp [cmpOk, okP_int, PySem.W.alike, isNoneP]
theorem gLt_int (i j : Int) : gLt (.int i) (.int j) = some (.bool (decide (i < j))) := by simp [gLt, cmpOk_int, PySem.W.dataLt_int]
theorem gGt_int (i j : Int) : gGt (.int i) (.int j) = some (.bool (decide (j < i))) := by simp [gGt, cmpOk_int, PySem.W.dataLt_int]
theorem gLe_int (i j : Int) : gLe (.int i) (.int j) = some (.bool (decide (i ≤ j))) := by
  simp only [gLe, cmpOk_int, PySem.W.dataLt_int, if_true, PySem.W.not_lt_int]
theorem gGe_int (i j : Int) : gGe (.int i) (.int j) = some (.bool (decide (j ≤ i))) := by
  simp only [gGe, cmpOk_int, PySem.W.dataLt_int, if_true, PySem.W.not_lt_int]
theorem gEq_int (i j : Int) : gEq (.int i) (.int j) = some (.bool (decide (i = j))) := by
  simp only [gEq, okP_int, Bool.and_self, if_true, PyData.eqv, PySem.W.beq_decide]
theorem gNe_int (i j : Int) : gNe (.int i) (.int j) = some (.bool (!decide (i = j))) := by
  simp only [gNe, okP_int, Bool.and_self, if_true, PyData.eqv, PySem.W.beq_decide]
theorem iMod_pos {i j : Int} (h : 0 < j) : iMod i j = some (.int (i % j)) := if_pos h
theorem iDiv_pos {i j : Int} (h : 0 < j) (h2 : j < 1073741824) : iDiv i j = some (.int (i / j)) := if_pos ⟨h, h2⟩
theorem iSub_eq (i j : Int) : iSub i j = some (.int (i - j)) := rfl
theorem iMul_l {i j : Int} (h1 : -18446744073709551616 < i) (h2 : i < 18446744073709551616) : iMul i j = some (.int (i * j)) := by
  unfold iMul cMul
  have e : (2 : Int) ^ 64 = 18446744073709551616 := by decide
  rw [e, decide_eq_true h1, decide_eq_true h2]
  rfl
theorem iPow_ok {i : Int} {j : Nat} (h1 : -18446744073709551616 < i) (h2 : i < 18446744073709551616) (h3 : j ≤ 1000000) : iPow i (j : Int) = some (.int (i ^ j)) := by
  have e : (2 : Nat) ^ 64 = 18446744073709551616 := by decide
  unfold iPow
  rw [if_pos ⟨by omega, by omega, by rw [e]; omega⟩]
  rfl

/-! ### data with a type -/
section
variable {α β : Type} [DecidableEq α] [DatumOrd α] [DecidableEq β] [DatumOrd β]
theorem okP_toD (h : Datum.depth α ≤ 60) (a : α) : okP (Datum.toD a) = true := by
  unfold okP
  rw [Datum.plain a, Bool.true_and, decide_eq_true_eq]
  exact Nat.le_trans (Datum.depth_le a) h
theorem gEq_toD (h : Datum.depth α ≤ 60) (a b : α) : gEq (Datum.toD a) (Datum.toD b) = some (.bool (decide (a = b))) := by
  unfold gEq
  rw [okP_toD h, okP_toD h, Bool.and_self, if_pos rfl, Datum.eqv]
theorem gNe_toD (h : Datum.depth α ≤ 60) (a b : α) : gNe (Datum.toD a) (Datum.toD b) = some (.bool (!decide (a = b))) := by
  unfold gNe
  rw [okP_toD h, okP_toD h, Bool.and_self, if_pos rfl, Datum.eqv]
theorem cmpOk_toD (h : Datum.depth α ≤ 60) (a b : α) : cmpOk (Datum.toD a) (Datum.toD b) = true := by
  unfold cmpOk
  rw [okP_toD h, okP_toD h, DatumOrd.alike]
  have := DatumOrd.notNone a
  cases e : (Datum.toD a : PyData) <;> first | rfl | exact absurd e this
theorem gLt_toD (h : Datum.depth α ≤ 60) (a b : α) : gLt (Datum.toD a) (Datum.toD b) = some (.bool (DatumOrd.lt a b)) := by
  unfold gLt
  rw [if_pos (cmpOk_toD h a b), DatumOrd.lt_eq]
theorem any_eqv (xs : List α) (a : α) : ((xs.map Datum.toD).any fun z => PyData.eqv z (Datum.toD a)) = decide (a ∈ xs) := by
  rw [Bool.eq_iff_iff, List.any_eq_true, decide_eq_true_eq]
  constructor
  · rintro ⟨d, hd, e⟩
    obtain ⟨b, hb, rfl⟩ := List.mem_map.mp hd
    rw [Datum.eqv, decide_eq_true_eq] at e
    exact e ▸ hb
  · intro h
    exact ⟨Datum.toD a, List.mem_map.mpr ⟨a, h, rfl⟩, by rw [Datum.eqv]; simp⟩
theorem inP_tuple (h : Datum.depth α + 1 ≤ 60) (a : α) (xs : List α) : inP (Datum.toD a) (.tuple (xs.map Datum.toD)) = some (decide (a ∈ xs)) := by
  have : okP (.tuple (xs.map Datum.toD)) = true := okP_toD (α := Tup α) h ⟨xs⟩
  show (if _ then _ else _) = _
  rw [okP_toD (Nat.le_of_succ_le h), this, Bool.and_self, if_pos rfl, any_eqv]
theorem inP_list (h : Datum.depth α + 1 ≤ 60) (a : α) (xs : List α) : inP (Datum.toD a) (.list (xs.map Datum.toD)) = some (decide (a ∈ xs)) := by
  have : okP (.list (xs.map Datum.toD)) = true := okP_toD (α := List α) h xs
  show (if _ then _ else _) = _
  rw [okP_toD (Nat.le_of_succ_le h), this, Bool.and_self, if_pos rfl, any_eqv]
theorem gIn_tuple (h : Datum.depth α + 1 ≤ 60) (a : α) (xs : List α) : gIn (Datum.toD a) (.tuple (xs.map Datum.toD)) = some (.bool (decide (a ∈ xs))) := by
  unfold gIn; rw [inP_tuple h]; rfl
theorem gNotIn_tuple (h : Datum.depth α + 1 ≤ 60) (a : α) (xs : List α) : gNotIn (Datum.toD a) (.tuple (xs.map Datum.toD)) = some (.bool (!decide (a ∈ xs))) := by
  unfold gNotIn; rw [inP_tuple h]; rfl
theorem gIn_list (h : Datum.depth α + 1 ≤ 60) (a : α) (xs : List α) : gIn (Datum.toD a) (.list (xs.map Datum.toD)) = some (.bool (decide (a ∈ xs))) := by
  unfold gIn; rw [inP_list h]; rfl
theorem gNotIn_list (h : Datum.depth α + 1 ≤ 60) (a : α) (xs : List α) : gNotIn (Datum.toD a) (.list (xs.map Datum.toD)) = some (.bool (!decide (a ∈ xs))) := by
  unfold gNotIn; rw [inP_list h]; rfl

/-! sorting -/
def tLe (a b : α) : Bool := !DatumOrd.lt b a
def srt (xs : List α) : List α := xs.mergeSort tLe
theorem tLe_toks (a b : α) : tLe a b = !PyProof.Rows.lexLt PyProof.Rows.itemOrd (PySem.W.keyToks (Datum.toD b)) (PySem.W.keyToks (Datum.toD a)) := by
  unfold tLe
  rw [← DatumOrd.lt_eq]
  rfl
theorem toks_inj {a b : α} (h : PySem.W.keyToks (Datum.toD a) = PySem.W.keyToks (Datum.toD b)) : a = b := by
  by_cases e : a = b
  · exact e
  · have ev : PyData.eqv (Datum.toD a) (Datum.toD b) = false := by rw [Datum.eqv]; simpa using e
    have := (PySem.W.toks_eqv _ _ (DatumOrd.alike a b)).2 ev [] [.inl 0]
    rw [h, PySem.W.lex_pre, PyProof.Rows.lex_irrefl] at this
    cases this
theorem tLe_trans (a b c : α) : tLe a b = true → tLe b c = true → tLe a c = true := by
  rw [tLe_toks, tLe_toks, tLe_toks, Bool.not_eq_true', Bool.not_eq_true', Bool.not_eq_true']
  intro h1 h2
  cases e : PyProof.Rows.lexLt PyProof.Rows.itemOrd (PySem.W.keyToks (Datum.toD c)) (PySem.W.keyToks (Datum.toD a)) with
  | false => rfl
  | true =>
    rcases PyProof.Rows.lex_negTrans _ (PySem.W.keyToks (Datum.toD b)) _ e with q | q
    · rw [h2] at q; cases q
    · rw [h1] at q; cases q
theorem tLe_total (a b : α) : (tLe a b || tLe b a) = true := by
  rw [tLe_toks, tLe_toks]
  cases e : PyProof.Rows.lexLt PyProof.Rows.itemOrd (PySem.W.keyToks (Datum.toD b)) (PySem.W.keyToks (Datum.toD a)) with
  | false => rfl
  | true =>
    cases e2 : PyProof.Rows.lexLt PyProof.Rows.itemOrd (PySem.W.keyToks (Datum.toD a)) (PySem.W.keyToks (Datum.toD b)) with
    | false => rfl
    | true =>
      have := PyProof.Rows.lex_trans _ _ _ e e2
      rw [PyProof.Rows.lex_irrefl] at this
      cases this
theorem tLe_antisymm {a b : α} (h1 : tLe a b = true) (h2 : tLe b a = true) : a = b := by
  rw [tLe_toks, Bool.not_eq_true'] at h1 h2
  exact toks_inj (PyProof.Rows.lex_total _ _ h2 h1)
theorem srt_perm (xs : List α) : (srt xs).Perm xs := List.mergeSort_perm _ _
theorem srt_pairwise (xs : List α) : (srt xs).Pairwise fun a b => tLe a b = true := List.pairwise_mergeSort tLe_trans tLe_total xs
theorem srt_eq {xs ys : List α} (h : xs.Perm ys) : srt xs = srt ys :=
  List.Perm.eq_of_pairwise (fun _ _ _ _ => tLe_antisymm) (srt_pairwise xs) (srt_pairwise ys) ((srt_perm xs).trans (h.trans (srt_perm ys).symm))
theorem srt_of {xs : List α} (h : xs.Pairwise fun a b => tLe a b = true) : srt xs = xs := List.mergeSort_of_pairwise h
theorem mem_srt {xs : List α} {a : α} : a ∈ srt xs ↔ a ∈ xs := (srt_perm xs).mem_iff
theorem srt_length (xs : List α) : (srt xs).length = xs.length := (srt_perm xs).length_eq
theorem srt_nodup {xs : List α} : (srt xs).Nodup ↔ xs.Nodup := (srt_perm xs).nodup_iff
theorem sortP_map (xs : List α) : sortP (xs.map Datum.toD) = (srt xs).map Datum.toD := by
  unfold sortP srt
  refine (List.map_mergeSort fun a _ b _ => ?_).symm
  show tLe a b = !PySem.W.dataLt (Datum.toD b) (Datum.toD a)
  rw [DatumOrd.lt_eq]
  rfl
theorem sortOk_map (h : Datum.depth α ≤ 60) {xs : List α} (h2 : (∀ a ∈ xs, tup1 (Datum.toD a) = true) ∨ ∀ a ∈ xs, flat1 (Datum.toD a) = true) : sortOk (xs.map Datum.toD) = true := by
  unfold sortOk
  simp only [Bool.and_eq_true, Bool.or_eq_true, List.all_eq_true, List.mem_map, forall_exists_index, and_imp, forall_apply_eq_imp_iff₂]
  exact ⟨⟨fun a _ => okP_toD h a, fun a _ b _ => DatumOrd.alike a b⟩, h2⟩
end
/-- sorted of texts -/
theorem srt_strs (xs : List Str) (M : Mem) : bSrt [.p (.list (xs.map .str))] M = some (.new (.lst ((srt xs).map .str)), M) := by
  have h1 : sortOk (xs.map .str) = true := sortOk_map (α := Str) (by decide) (.inr fun _ _ => rfl)
  have h2 : sortP (xs.map .str) = (srt xs).map .str := sortP_map (α := Str) xs
  simp only [bSrt, seqP, pv_p, h1, if_true, h2]
theorem srt_strsT (xs : List Str) (M : Mem) : bSrt [.p (.tuple (xs.map .str))] M = some (.new (.lst ((srt xs).map .str)), M) := by
  have h1 : sortOk (xs.map .str) = true := sortOk_map (α := Str) (by decide) (.inr fun _ _ => rfl)
  have h2 : sortP (xs.map .str) = (srt xs).map .str := sortP_map (α := Str) xs
  simp only [bSrt, seqP, pv_p, h1, if_true, h2]
/-- a team: a tuple of texts -/
def tm (xs : List Str) : P := .tuple (xs.map .str)
abbrev mkT (xs : List Str) : Tup Str := ⟨xs⟩
theorem tm_toD (xs : List Str) : tm xs = Datum.toD (mkT xs) := rfl
theorem map_tm (xss : List (List Str)) : xss.map tm = (xss.map mkT).map Datum.toD := by rw [List.map_map]; rfl
/-- sorted teams -/
def srtT (xss : List (List Str)) : List (List Str) := (srt (xss.map mkT)).map (·.items)
theorem srtT_map (xss : List (List Str)) : (srt (xss.map mkT)).map Datum.toD = (srtT xss).map tm := by
  unfold srtT
  rw [List.map_map]
  rfl
theorem srtT_perm (xss : List (List Str)) : (srtT xss).Perm xss := by
  have := (srt_perm (xss.map mkT)).map (·.items)
  rw [List.map_map] at this
  simpa [srtT, Function.comp_def] using this
theorem bSrt_teams {d : D} {M : Mem} {xss : List (List Str)} (hd : seqP d M = some (xss.map tm)) (hne : ∀ xs ∈ xss, xs ≠ []) : bSrt [d] M = some (.new (.lst ((srtT xss).map tm)), M) := by
  have h1 : sortOk (xss.map tm) = true := by
    rw [map_tm]
    refine sortOk_map (α := Tup Str) (by decide) (.inl fun a ha => ?_)
    obtain ⟨xs, hx, rfl⟩ := List.mem_map.mp ha
    cases xs with
    | nil => exact absurd rfl (hne _ hx)
    | cons x r => rfl
  have h2 : sortP (xss.map tm) = (srtT xss).map tm := by rw [map_tm, sortP_map, srtT_map]
  simp only [bSrt, hd, h1, if_true, h2]
theorem seqP_list (xs : List P) (M : Mem) : seqP (.p (.list xs)) M = some xs := rfl
theorem seqP_tuple (xs : List P) (M : Mem) : seqP (.p (.tuple xs)) M = some xs := rfl
theorem seqP_obj {n : Nat} {M : Mem} {xs : List P} (h : M[n]? = some (.lst xs)) : seqP (.obj n) M = some xs := by simp only [seqP, pv, h]
theorem pv_obj {n : Nat} {M : Mem} {xs : List P} (h : M[n]? = some (.lst xs)) : pv (.obj n) M = some (.list xs) := by simp only [pv, h]
theorem len_list (xs : List P) (M : Mem) : bLen [.p (.list xs)] M = some (.d (.p (.int xs.length)), M) := rfl
theorem len_tuple (xs : List P) (M : Mem) : bLen [.p (.tuple xs)] M = some (.d (.p (.int xs.length)), M) := rfl
theorem len_obj {n : Nat} {M : Mem} {xs : List P} (h : M[n]? = some (.lst xs)) : bLen [.obj n] M = some (.d (.p (.int xs.length)), M) := by simp only [bLen, pv_obj h]
theorem tup_list (xs : List P) (M : Mem) : bTuple [.p (.list xs)] M = some (.d (.p (.tuple xs)), M) := rfl
theorem tup_tuple (xs : List P) (M : Mem) : bTuple [.p (.tuple xs)] M = some (.d (.p (.tuple xs)), M) := rfl
theorem lst_list (xs : List P) (M : Mem) : bList [.p (.list xs)] M = some (.new (.lst xs), M) := rfl
theorem lst_tuple (xs : List P) (M : Mem) : bList [.p (.tuple xs)] M = some (.new (.lst xs), M) := rfl
theorem atI_nat' {α : Type} (xs : List α) (k : Nat) : atI xs (k : Int) = xs[k]? := by
  unfold atI ixN
  rw [if_pos (by omega)]
  by_cases h : (k : Int) < (xs.length : Nat)
  · rw [if_pos h]; rfl
  · rw [if_neg h, List.getElem?_eq_none (by omega)]; rfl
theorem sub_list (xs : List P) (i : Int) (M : Mem) : dSub (.p (.list xs)) (.p (.int i)) M = (atI xs i).map fun z => .d (.p z) := rfl
theorem sub_tuple (xs : List P) (i : Int) (M : Mem) : dSub (.p (.tuple xs)) (.p (.int i)) M = (atI xs i).map fun z => .d (.p z) := rfl
end Cb

set_option Elab.async false
set_option linter.all false
set_option maxRecDepth 100000
/-! Cm, part D: loops, comprehensions, displays. -/
namespace Cb
open PySem PySem.Spec PyProof.Rows L2
open PySem.W (Datum DatumOrd Tup)

/-! ### {k: v, ..} -/
theorem ok_eDisp (l : List (PFn × PFn)) (ρ : Env) (M : Mem) (Q : Ev → Mem → Prop) : Ok (eDisp l ρ M) Q = Ok (pairL l ρ M) fun ps M1 => Q (.new (.dct (mergeP ps))) M1 := by
  simp only [eDisp, Ok_bind, Ok_ok]
theorem ok_eDNew (ρ : Env) (M : Mem) (Q : Ev → Mem → Prop) : Ok (eDNew ρ M) Q = Q (.new (.dct [])) M := rfl
theorem pair_nil (ρ : Env) (M : Mem) (Q : List (P × P) → Mem → Prop) : Ok (pairL [] ρ M) Q = Q [] M := rfl
theorem pair_cons (k v : PFn) (r : List (PFn × PFn)) (ρ : Env) (M : Mem) (Q : List (P × P) → Mem → Prop) :
    Ok (pairL ((k, v) :: r) ρ M) Q = Ok (k ρ M) fun a M1 => Ok (v ρ M1) fun b M2 => ∃ kp, a.stl = .p kp ∧ (keyOf kp).isSome = true ∧ ∃ y M3, pur b.stl M2 = some (y, M3) ∧ Ok (pairL r ρ M3) fun ps M4 => Q ((kp, y) :: ps) M4 := by
  rw [pairL, Ok_bind, Ok_ne, Ok_stl]
  congr 1
  funext a M1
  rw [Ok_bind, Ok_ne, Ok_stl]
  congr 1
  funext b M2
  cases e : a.stl with
  | p kp =>
    cases e2 : keyOf kp with
    | none => simp [e2]
    | some q =>
      cases e3 : pur b.stl M2 with
      | none => simp only [e2, e3]; simp
      | some z =>
        obtain ⟨y, M3⟩ := z
        refine propext ⟨fun h => ⟨kp, rfl, by rw [e2]; rfl, y, M3, rfl, ?_⟩, ?_⟩
        · simp only [e2, Ok_bind, Ok_ok] at h; exact h
        · rintro ⟨kp', z1, _, y', M3', z2, h⟩
          cases z1
          cases z2
          simp only [e2, Ok_bind, Ok_ok]; exact h
  | _ => simp

/-! ### for -/
/-- a turn's end: on with the next, or out of the loop -/
def Turn (I : Env → Mem → Prop) (QS : Out → Mem → Prop) : Out → Mem → Prop := fun o M => match o with
  | .nx ρ => I ρ M
  | .ct ρ => I ρ M
  | .bk ρ => QS (.nx ρ) M
  | .rt e => QS (.rt e) M
theorem Turn_nx (I : Env → Mem → Prop) (QS : Out → Mem → Prop) (ρ : Env) (M : Mem) : Turn I QS (.nx ρ) M = I ρ M := rfl
theorem Turn_ct (I : Env → Mem → Prop) (QS : Out → Mem → Prop) (ρ : Env) (M : Mem) : Turn I QS (.ct ρ) M = I ρ M := rfl
theorem Turn_bk (I : Env → Mem → Prop) (QS : Out → Mem → Prop) (ρ : Env) (M : Mem) : Turn I QS (.bk ρ) M = QS (.nx ρ) M := rfl
theorem Turn_rt (I : Env → Mem → Prop) (QS : Out → Mem → Prop) (e : Ev) (M : Mem) : Turn I QS (.rt e) M = QS (.rt e) M := rfl
/-- the loop with n turns, by a word of the turn's number; item: what the i-th turn gets, as things stand -/
theorem for_ok {step : Stp} {γ : GFn} {body els : SFn} {ρ : Env} {M : Mem} {QS : Out → Mem → Prop} (n : Nat) (I : Nat → Env → Mem → Prop) (hn : n ≤ sizeLine) (h0 : I 0 ρ M)
    (hs : ∀ i ρ M, i < n → I i ρ M → ∃ x ρ1, step i M = some (some x) ∧ γ x ρ = some ρ1 ∧ Ok (body ρ1 M) (Turn (I (i + 1)) QS)) (he : ∀ ρ M, I n ρ M → step n M = some none ∧ Ok (els ρ M) QS) : Ok (forL step γ body els FUEL 0 ρ M) QS := by
  have key : ∀ (f i : Nat) (ρ : Env) (M : Mem), i ≤ n → n < f + i → I i ρ M → Ok (forL step γ body els f i ρ M) QS := by
    intro f
    induction f with
    | zero => intro i ρ M h1 h2; omega
    | succ f ih =>
      intro i ρ M h1 h2 hI
      unfold forL
      by_cases hi : i < n
      · obtain ⟨x, ρ1, e1, e2, hb⟩ := hs i ρ M hi hI
        rw [e1]
        simp only
        rw [e2]
        simp only
        rw [Ok_bind]
        refine hb.mono fun o M1 ht => ?_
        cases o with
        | nx ρ2 => exact ih (i + 1) ρ2 M1 hi (by omega) ht
        | ct ρ2 => exact ih (i + 1) ρ2 M1 hi (by omega) ht
        | bk ρ2 => exact ht
        | rt e => exact ht
      · have : i = n := by omega
        subst this
        obtain ⟨e1, e2⟩ := he ρ M hI
        rw [e1]
        exact e2
  exact key FUEL 0 ρ M (Nat.zero_le _) (by rw [sizeLine_eq] at hn; rw [FUEL_eq]; omega) h0
theorem stL_at {xs : List P} {i : Nat} {M : Mem} (h : i < xs.length) : stL xs i M = some (some xs[i]) := by
  unfold stL; rw [List.getElem?_eq_getElem h]
theorem stL_end {xs : List P} {M : Mem} : stL xs xs.length M = some none := by
  unfold stL; rw [List.getElem?_eq_none (Nat.le_refl _)]
theorem stO_at {n : Nat} {xs : List P} {i : Nat} {M : Mem} (hM : M[n]? = some (.lst xs)) (h : i < xs.length) : stO n i M = some (some xs[i]) := by
  unfold stO; rw [hM]; simp only; rw [List.getElem?_eq_getElem h]
theorem stO_end {n : Nat} {xs : List P} {M : Mem} (hM : M[n]? = some (.lst xs)) : stO n xs.length M = some none := by
  unfold stO; rw [hM]; simp only; rw [List.getElem?_eq_none (Nat.le_refl _)]
theorem stR_at {lo : Int} {n i : Nat} {M : Mem} (h : i < n) : stR lo n i M = some (some (.int (lo + i))) := by
  unfold stR; rw [if_pos h]
theorem stR_end {lo : Int} {n : Nat} {M : Mem} : stR lo n n M = some none := by
  unfold stR; rw [if_neg (Nat.lt_irrefl _)]
/-- a for whose target is one name, over plain items -/
theorem for_list {xs : List P} {k : Nat} {body els : SFn} {ρ : Env} {M : Mem} {QS : Out → Mem → Prop} (I : Nat → Env → Mem → Prop) (hn : xs.length ≤ sizeLine) (h0 : I 0 ρ M)
    (hs : ∀ i x ρ M, xs[i]? = some x → I i ρ M → Ok (body (ρ.set k (some (.p x))) M) (Turn (I (i + 1)) QS)) (he : ∀ ρ M, I xs.length ρ M → Ok (els ρ M) QS) : Ok (forL (stL xs) (gNm k) body els FUEL 0 ρ M) QS :=
  for_ok xs.length I hn h0 (fun i ρ M hi hI => ⟨xs[i], _, stL_at hi, rfl, hs i _ ρ M (List.getElem?_eq_getElem hi) hI⟩) fun ρ M hI => ⟨stL_end, he ρ M hI⟩
theorem for_range {n : Nat} {lo : Int} {k : Nat} {body els : SFn} {ρ : Env} {M : Mem} {QS : Out → Mem → Prop} (I : Nat → Env → Mem → Prop) (hn : n ≤ sizeLine) (h0 : I 0 ρ M)
    (hs : ∀ i ρ M, i < n → I i ρ M → Ok (body (ρ.set k (some (.p (.int (lo + i))))) M) (Turn (I (i + 1)) QS)) (he : ∀ ρ M, I n ρ M → Ok (els ρ M) QS) : Ok (forL (stR lo n) (gNm k) body els FUEL 0 ρ M) QS :=
  for_ok n I hn h0 (fun i ρ M hi hI => ⟨_, _, stR_at hi, rfl, hs i ρ M hi hI⟩) fun ρ M hI => ⟨stR_end, he ρ M hI⟩
theorem for_obj {n : Nat} {xs : List P} {k : Nat} {body els : SFn} {ρ : Env} {M : Mem} {QS : Out → Mem → Prop} (I : Nat → Env → Mem → Prop) (hn : xs.length ≤ sizeLine) (h0 : I 0 ρ M) (hM : ∀ i ρ M, I i ρ M → M[n]? = some (.lst xs))
    (hs : ∀ i x ρ M, xs[i]? = some x → I i ρ M → Ok (body (ρ.set k (some (.p x))) M) (Turn (I (i + 1)) QS)) (he : ∀ ρ M, I xs.length ρ M → Ok (els ρ M) QS) : Ok (forL (stO n) (gNm k) body els FUEL 0 ρ M) QS :=
  for_ok xs.length I hn h0 (fun i ρ M hi hI => ⟨xs[i], _, stO_at (hM i ρ M hI) hi, rfl, hs i _ ρ M (List.getElem?_eq_getElem hi) hI⟩) fun ρ M hI => ⟨stO_end (hM _ ρ M hI), he ρ M hI⟩
/-- while: by a word and a measure -/
theorem wh_ok {t : TFn} {body els : SFn} {ρ : Env} {M : Mem} {QS : Out → Mem → Prop} (I : Nat → Env → Mem → Prop) (m : Nat) (hm : m ≤ sizeLine) (h0 : I m ρ M)
    (hs : ∀ m ρ M, I m ρ M → Ok (t ρ M) fun b M1 => if b = true then Ok (body ρ M1) (Turn (fun ρ' M' => ∃ m', m' < m ∧ I m' ρ' M') QS) else Ok (els ρ M1) QS) : Ok (sWh t body els ρ M) QS := by
  have key : ∀ (f m : Nat) (ρ : Env) (M : Mem), m < f → I m ρ M → Ok (whL t body els f ρ M) QS := by
    intro f
    induction f with
    | zero => intro m ρ M h; omega
    | succ f ih =>
      intro m ρ M hf hI
      unfold whL
      rw [Ok_bind]
      refine (hs m ρ M hI).mono fun b M1 h => ?_
      cases b with
      | false => exact h
      | true =>
        simp only [if_true] at h ⊢
        rw [Ok_bind]
        refine h.mono fun o M2 ht => ?_
        cases o with
        | nx ρ2 => obtain ⟨m', h1, h2⟩ := ht; exact ih m' ρ2 M2 (by omega) h2
        | ct ρ2 => obtain ⟨m', h1, h2⟩ := ht; exact ih m' ρ2 M2 (by omega) h2
        | bk ρ2 => exact ht
        | rt e => exact ht
  exact key FUEL m ρ M (by rw [sizeLine_eq] at hm; rw [FUEL_eq]; omega) h0

/-! ### comprehensions -/
/-- by a word of the turn's number and what is made so far -/
theorem lc_ok {step : Stp} {γ : GFn} {t : TFn} {φ : PFn} {vs : List Nat} {ρ : Env} {M : Mem} {Q : Ev → Mem → Prop} (n : Nat) (I : Nat → List P → Mem → Prop) (hn : n ≤ sizeLine) (h0 : I 0 [] M)
    (hs : ∀ i acc M, i < n → I i acc M → acc.length ≤ i → ∃ x ρ1, step i M = some (some x) ∧ γ x (wipeE ρ vs) = some ρ1 ∧ Ok (t ρ1 M) fun b M1 => if b = true then Ok (φ ρ1 M1) fun e M2 => ∃ y M3, pur e.stl M2 = some (y, M3) ∧ I (i + 1) (acc ++ [y]) M3 else I (i + 1) acc M1)
    (he : ∀ acc M, I n acc M → acc.length ≤ n → step n M = some none ∧ Q (.new (.lst acc)) M) : Ok (lcL step γ t φ vs FUEL 0 [] ρ M) Q := by
  have key : ∀ (f i : Nat) (acc : List P) (M : Mem), i ≤ n → n < f + i → acc.length ≤ i → I i acc M → Ok (lcL step γ t φ vs f i acc ρ M) Q := by
    intro f
    induction f with
    | zero => intro i acc M h1 h2; omega
    | succ f ih =>
      intro i acc M h1 h2 h3 hI
      unfold lcL
      by_cases hi : i < n
      · obtain ⟨x, ρ1, e1, e2, hb⟩ := hs i acc M hi hI h3
        rw [e1]
        simp only
        rw [e2]
        simp only
        rw [Ok_bind, Ok_ne]
        refine hb.mono fun b M1 h => ?_
        cases b with
        | false => exact ih (i + 1) acc M1 hi (by omega) (by omega) h
        | true =>
          simp only [if_true] at h ⊢
          rw [Ok_bind, Ok_ne, Ok_stl]
          refine h.mono fun e M2 ⟨y, M3, ey, h4⟩ => ?_
          rw [ey]
          simp only
          rw [if_pos (by omega)]
          exact ih (i + 1) (acc ++ [y]) M3 hi (by omega) (by rw [List.length_append]; simpa using h3) h4
      · have : i = n := by omega
        subst this
        obtain ⟨e1, e2⟩ := he acc M hI h3
        rw [e1]
        exact e2
  exact key FUEL 0 [] M (Nat.zero_le _) (by rw [sizeLine_eq] at hn; rw [FUEL_eq]; omega) (Nat.le_refl _) h0
/-- pure: xs filtered, then mapped -/
theorem lc_pure {α : Type} {step : Stp} {γ : GFn} {t : TFn} {φ : PFn} {vs : List Nat} {ρ : Env} {M : Mem} {Q : Ev → Mem → Prop} (xs : List α) (e : α → P) (p : α → Bool) (f : α → P) (hn : xs.length ≤ sizeLine) (hst : ∀ i : Nat, step i M = some ((xs[i]?).map e))
    (hs : ∀ a, a ∈ xs → ∃ ρ1, γ (e a) (wipeE ρ vs) = some ρ1 ∧ Ok (t ρ1 M) fun b M1 => M1 = M ∧ b = p a ∧ (p a = true → Ok (φ ρ1 M) fun v M2 => M2 = M ∧ v.stl = .p (f a)))
    (hq : Q (.new (.lst ((xs.filter p).map f))) M) : Ok (lcL step γ t φ vs FUEL 0 [] ρ M) Q := by
  refine lc_ok xs.length (fun i acc M' => M' = M ∧ acc = ((xs.take i).filter p).map f) hn ⟨rfl, rfl⟩ ?_ ?_
  · rintro i acc M' hi ⟨rfl, rfl⟩ _
    obtain ⟨ρ1, e1, h1⟩ := hs xs[i] (List.getElem_mem hi)
    refine ⟨e xs[i], ρ1, by rw [hst, List.getElem?_eq_getElem hi]; rfl, e1, h1.mono ?_⟩
    rintro b M1 ⟨rfl, rfl, h2⟩
    have tk : xs.take (i + 1) = xs.take i ++ [xs[i]] := by rw [List.take_append_getElem hi]
    cases hp : p xs[i] with
    | false =>
      refine ⟨rfl, ?_⟩
      rw [tk, List.filter_append, List.filter_cons_of_neg (by rw [hp]; exact Bool.false_ne_true)]
      simp
    | true =>
      refine (h2 hp).mono ?_
      rintro v M2 ⟨rfl, ev⟩
      refine ⟨f xs[i], M2, by rw [ev]; rfl, rfl, ?_⟩
      rw [tk, List.filter_append, List.filter_cons_of_pos hp, List.map_append]
      rfl
  · rintro acc M' ⟨rfl, rfl⟩ _
    rw [List.take_length]
    exact ⟨by rw [hst, List.getElem?_eq_none (Nat.le_refl _)]; rfl, hq⟩
theorem st_map {α : Type} (xs : List α) (e : α → P) (M : Mem) (i : Nat) : stL (xs.map e) i M = some ((xs[i]?).map e) := by
  unfold stL; rw [List.getElem?_map]
theorem st_obj {α : Type} {xs : List α} {e : α → P} {M : Mem} {n : Nat} (h : M[n]? = some (.lst (xs.map e))) (i : Nat) : stO n i M = some ((xs[i]?).map e) := by
  unfold stO; rw [h]; simp only; rw [List.getElem?_map]
theorem st_range (n : Nat) (M : Mem) (i : Nat) : stR 0 n i M = some (((List.range n)[i]?).map fun k => .int k) := by
  unfold stR
  by_cases h : i < n
  · rw [if_pos h, List.getElem?_range h]; simp
  · rw [if_neg h, List.getElem?_eq_none (by simpa using h)]; rfl
/-- over plain items, the target one name -/
theorem lc_list {α : Type} {t : TFn} {φ : PFn} {k : Nat} {ρ : Env} {M : Mem} {Q : Ev → Mem → Prop} (xs : List α) (e : α → P) (p : α → Bool) (f : α → P) (hn : xs.length ≤ sizeLine)
    (hs : ∀ a, a ∈ xs → Ok (t ((ρ.set k none).set k (some (.p (e a)))) M) fun b M1 => M1 = M ∧ b = p a ∧ (p a = true → Ok (φ ((ρ.set k none).set k (some (.p (e a)))) M) fun v M2 => M2 = M ∧ v.stl = .p (f a)))
    (hq : Q (.new (.lst ((xs.filter p).map f))) M) : Ok (lcL (stL (xs.map e)) (gNm k) t φ [k] FUEL 0 [] ρ M) Q :=
  lc_pure xs e p f hn (st_map xs e M) (fun a ha => ⟨_, rfl, hs a ha⟩) hq
/-- .. without a test -/
theorem lc_map {α β : Type} {φ : PFn} {k : Nat} {ρ : Env} {M : Mem} {Q : Ev → Mem → Prop} (xs : List α) (e : α → P) (f : α → β) (e' : β → P) (hn : xs.length ≤ sizeLine)
    (hs : ∀ a, a ∈ xs → Ok (φ ((ρ.set k none).set k (some (.p (e a)))) M) fun v M2 => M2 = M ∧ v.stl = .p (e' (f a))) (hq : Q (.new (.lst ((xs.map f).map e'))) M) : Ok (lcL (stL (xs.map e)) (gNm k) tTrue φ [k] FUEL 0 [] ρ M) Q := by
  refine lc_list xs e (fun _ => true) (fun a => e' (f a)) hn (fun a ha => ?_) ?_
  · rw [ok_tTrue]
    exact ⟨rfl, rfl, fun _ => hs a ha⟩
  · rw [List.filter_eq_self.mpr (fun _ _ => rfl), show (xs.map fun a => e' (f a)) = (xs.map f).map e' from (List.map_map ..).symm]
    exact hq
/-- .. that keeps the items -/
theorem lc_filter {α : Type} {t : TFn} {φ : PFn} {k : Nat} {ρ : Env} {M : Mem} {Q : Ev → Mem → Prop} (xs : List α) (e : α → P) (p : α → Bool) (hn : xs.length ≤ sizeLine)
    (ht : ∀ a, a ∈ xs → Ok (t ((ρ.set k none).set k (some (.p (e a)))) M) fun b M1 => M1 = M ∧ b = p a) (hs : ∀ a, a ∈ xs → Ok (φ ((ρ.set k none).set k (some (.p (e a)))) M) fun v M2 => M2 = M ∧ v.stl = .p (e a))
    (hq : Q (.new (.lst ((xs.filter p).map e))) M) : Ok (lcL (stL (xs.map e)) (gNm k) t φ [k] FUEL 0 [] ρ M) Q :=
  lc_list xs e p e hn (fun a ha => (ht a ha).mono fun b M1 ⟨h1, h2⟩ => ⟨h1, h2, fun _ => hs a ha⟩) hq
/-- .. filtered and mapped -/
theorem lc_fm {α β : Type} {t : TFn} {φ : PFn} {k : Nat} {ρ : Env} {M : Mem} {Q : Ev → Mem → Prop} (xs : List α) (e : α → P) (p : α → Bool) (f : α → β) (e' : β → P) (hn : xs.length ≤ sizeLine)
    (ht : ∀ a, a ∈ xs → Ok (t ((ρ.set k none).set k (some (.p (e a)))) M) fun b M1 => M1 = M ∧ b = p a) (hs : ∀ a, a ∈ xs → p a = true → Ok (φ ((ρ.set k none).set k (some (.p (e a)))) M) fun v M2 => M2 = M ∧ v.stl = .p (e' (f a)))
    (hq : Q (.new (.lst (((xs.filter p).map f).map e'))) M) : Ok (lcL (stL (xs.map e)) (gNm k) t φ [k] FUEL 0 [] ρ M) Q := by
  refine lc_list xs e p (fun a => e' (f a)) hn (fun a ha => (ht a ha).mono fun b M1 ⟨h1, h2⟩ => ⟨h1, h2, fun h3 => hs a ha h3⟩) ?_
  rw [show ((xs.filter p).map fun a => e' (f a)) = ((xs.filter p).map f).map e' from (List.map_map ..).symm]
  exact hq
theorem boolsP_map : ∀ bs : List Bool, boolsP (bs.map .bool) = some bs
  | [] => rfl
  | b :: bs => by
    show (boolsP (bs.map .bool)).map (b :: ·) = _
    rw [boolsP_map bs]; rfl
theorem all_bools (bs : List Bool) (M : Mem) : bAll [.p (.list (bs.map .bool))] M = some (.d (.p (.bool (bs.all id))), M) := by
  simp only [bAll, listP, pv_p, boolsP_map, Option.map_some]
theorem any_bools (bs : List Bool) (M : Mem) : bAny [.p (.list (bs.map .bool))] M = some (.d (.p (.bool (bs.any id))), M) := by
  simp only [bAny, listP, pv_p, boolsP_map, Option.map_some]
/-! ### lists that change -/
theorem kind_obj {n : Nat} {M : Mem} {xs : List P} (h : M[n]? = some (.lst xs)) : kindD (.obj n) M = some "list" := by simp only [kindD, pv_obj h]
theorem gm_append : gmAppend "list" = some mAppend := rfl
theorem gm_extend : gmExtend "list" = some mExtend := rfl
theorem gm_pop : gmPop "list" = some mPop := rfl
theorem mapp {n : Nat} {M : Mem} {xs : List P} {y : P} (h : M[n]? = some (.lst xs)) (hz : xs.length < sizeLine) : mAppend (.obj n) [.p y] M = some (.d (.p .none), M.set n (.lst (xs ++ [y]))) := by
  simp only [mAppend, pur_p, h, if_pos hz]
theorem mext {n : Nat} {M : Mem} {xs ys : List P} (h : M[n]? = some (.lst xs)) (hz : xs.length + ys.length ≤ sizeLine) : mExtend (.obj n) [.p (.list ys)] M = some (.d (.p .none), M.set n (.lst (xs ++ ys))) := by
  simp only [mExtend, listP, pv_p, h, if_pos hz]
theorem mpop {n : Nat} {M : Mem} {xs : List P} {i : Int} {k : Nat} {y : P} (h : M[n]? = some (.lst xs)) (hk : i = (k : Int)) (hz : k < sizeLine) (hy : xs[k]? = some y) : mPop (.obj n) [.p (.int i)] M = some (.d (.p y), M.set n (.lst (xs.eraseIdx k))) := by
  subst hk
  have h2 : (0 : Int) ≤ k ∧ (k : Int) < 2 ^ 63 := ⟨by omega, by rw [sizeLine_eq] at hz; omega⟩
  simp only [mPop, h, if_pos h2, Int.toNat_natCast, hy]
theorem mpop0 {n : Nat} {M : Mem} {xs : List P} {y : P} (h : M[n]? = some (.lst (xs ++ [y]))) : mPop (.obj n) [] M = some (.d (.p y), M.set n (.lst xs)) := by
  simp [mPop, h]
theorem pur_obj {n : Nat} {M : Mem} {xs : List P} (h : M[n]? = some (.lst xs)) : pur (.obj n) M = some (.list xs, M.set n .dead) := by
  simp only [pur, h]
theorem purs_obj {n : Nat} {M : Mem} {xs : List P} {ds : List D} (h : M[n]? = some (.lst xs)) : purs (.obj n :: ds) M = (purs ds (M.set n .dead)).map fun x => (.list xs :: x.1, x.2) := by
  simp only [purs, pur_obj h]
  cases purs ds (M.set n .dead) <;> rfl
theorem dSl_tuple (xs : List P) (lo hi : Option Int) (M : Mem) : dSl lo hi (.p (.tuple xs)) M = some (.d (.p (.tuple (cutP xs lo hi)))) := rfl
theorem dSl_list (xs : List P) (lo hi : Option Int) (M : Mem) : dSl lo hi (.p (.list xs)) M = some (.new (.lst (cutP xs lo hi))) := rfl
theorem dSl_frz (xs : List P) (lo hi : Option Int) (M : Mem) : dSl lo hi (.frz xs) M = some (.new (.lst (cutP xs lo hi))) := rfl
theorem dAdd_list {xs ys : List P} (h : xs.length + ys.length ≤ sizeLine) (M : Mem) : dAdd (.p (.list xs)) (.p (.list ys)) M = some (.new (.lst (xs ++ ys))) := by
  simp only [dAdd, pv_p, if_pos h]
theorem dAdd_tuple {xs ys : List P} (h : xs.length + ys.length ≤ sizeLine) (M : Mem) : dAdd (.p (.tuple xs)) (.p (.tuple ys)) M = some (.d (.p (.tuple (xs ++ ys)))) := by
  simp only [dAdd, pv_p, if_pos h]
/-! the memory behind what stood -/
theorem at_len (M : Mem) (o : MObj) (R : Mem) : (M ++ o :: R)[M.length]? = some o := by simp
theorem set_len (M : Mem) (o o' : MObj) (R : Mem) : (M ++ o :: R).set M.length o' = M ++ o' :: R := by simp
theorem take_len (M R : Mem) : (M ++ R).take M.length = M := by simp
theorem fin_obj_new {n j : Nat} {M : Mem} {xs : List P} (hj : ¬ j < n) (h : M[j]? = some (.lst xs)) : fin n (.ok (.rt (.d (.obj j))) M) = .ok (.new (.lst xs)) (M.take n) := by
  simp only [fin, if_neg hj, h]
theorem fin_new (n : Nat) (o : MObj) (M : Mem) : fin n (.ok (.rt (.new o)) M) = .ok (.new o) (M.take n) := rfl
theorem small_of {i : Int} (h1 : -1000000000000 ≤ i) (h2 : i ≤ 1000000000000) : smallI i = true := by
  have e : (2 : Int) ^ 62 = 4611686018427387904 := by decide
  unfold smallI
  rw [e]
  exact decide_eq_true ⟨by omega, by omega⟩
theorem rg1_nat {n : Nat} (h : n ≤ 1000000000) : rg1 [.p (.int (n : Int))] = some (stR 0 n) := by
  show (if smallI n = true then some (stR 0 (n : Int).toNat) else none) = _
  rw [if_pos (small_of (by omega) (by omega))]
  rfl
theorem rg1_int {i : Int} (h0 : 0 ≤ i) (h : i ≤ 1000000000) : rg1 [.p (.int i)] = some (stR 0 i.toNat) := by
  show (if smallI i = true then some (stR 0 i.toNat) else none) = _
  rw [if_pos (small_of (by omega) (by omega))]
end Cb

set_option Elab.async false
set_option linter.all false
set_option maxRecDepth 100000
/-! Cm, part B: the feed. -/
namespace Cb
open PySem PySem.Spec PyProof.Rows L2

/-- the object n alone may differ -/
def Mo (n : Nat) (M M' : Mem) : Prop := M'.length = M.length ∧ ∀ i, i ≠ n → M'[i]? = M[i]?
theorem Mo.refl {n : Nat} {M : Mem} : Mo n M M := ⟨rfl, fun _ _ => rfl⟩
theorem Mo.trans {n : Nat} {M M1 M2 : Mem} (a : Mo n M M1) (b : Mo n M1 M2) : Mo n M M2 := ⟨b.1.trans a.1, fun i h => (b.2 i h).trans (a.2 i h)⟩
theorem Mo.set {n : Nat} {M : Mem} {o : MObj} : Mo n M (M.set n o) := ⟨by simp, fun i h => List.getElem?_set_ne (fun e => h e.symm)⟩
/-- the feed's data -/
def fdD (c : List Int) (nx rs dr : Int) : MObj := .dct [(.str "cells", .list (c.map .int)), (.str "next", .int nx), (.str "rest", .int rs), (.str "draws", .int dr)]
/-- the feed at n, with at most b draws so far -/
def Fd (M : Mem) (n b : Nat) : Prop := ∃ c nx rs dr, M[n]? = some (fdD c nx rs dr) ∧ 0 ≤ nx ∧ 0 ≤ dr ∧ dr ≤ (b : Int)
theorem Fd.lt {M : Mem} {n b : Nat} (h : Fd M n b) : n < M.length := by
  obtain ⟨_, _, _, _, e, _⟩ := h
  exact (List.getElem?_eq_some_iff.mp e).1
theorem Fd.mono {M : Mem} {n b b' : Nat} (h : Fd M n b) (hb : b ≤ b') : Fd M n b' := by
  obtain ⟨c, nx, rs, dr, e, h1, h2, h3⟩ := h
  exact ⟨c, nx, rs, dr, e, h1, h2, by omega⟩
/-! reading and writing the feed -/
section
variable {M : Mem} {n : Nat} {c : List Int} {nx rs dr v : Int}
theorem pv_fd (h : M[n]? = some (fdD c nx rs dr)) : pv (.obj n) M = some (.dict [(.str "cells", .list (c.map .int)), (.str "next", .int nx), (.str "rest", .int rs), (.str "draws", .int dr)]) := by
  simp only [pv, h, fdD]
theorem fd_cells (h : M[n]? = some (fdD c nx rs dr)) : dSub (.obj n) (.p (.str "cells")) M = some (.d (.p (.list (c.map .int)))) := by
  unfold dSub; rw [pv_fd h]; rfl
theorem fd_next (h : M[n]? = some (fdD c nx rs dr)) : dSub (.obj n) (.p (.str "next")) M = some (.d (.p (.int nx))) := by
  unfold dSub; rw [pv_fd h]; rfl
theorem fd_rest (h : M[n]? = some (fdD c nx rs dr)) : dSub (.obj n) (.p (.str "rest")) M = some (.d (.p (.int rs))) := by
  unfold dSub; rw [pv_fd h]; rfl
theorem fd_draws (h : M[n]? = some (fdD c nx rs dr)) : dSub (.obj n) (.p (.str "draws")) M = some (.d (.p (.int dr))) := by
  unfold dSub; rw [pv_fd h]; rfl
theorem fd_setN (h : M[n]? = some (fdD c nx rs dr)) : dSet (.obj n) (.p (.str "next")) (.p (.int v)) M = some (M.set n (fdD c v rs dr)) := by
  unfold dSet; simp only [pur_p, h, fdD]; rw [if_pos (by rw [sizeLine_eq]; simp)]; rfl
theorem fd_setR (h : M[n]? = some (fdD c nx rs dr)) : dSet (.obj n) (.p (.str "rest")) (.p (.int v)) M = some (M.set n (fdD c nx v dr)) := by
  unfold dSet; simp only [pur_p, h, fdD]; rw [if_pos (by rw [sizeLine_eq]; simp)]; rfl
theorem fd_setD (h : M[n]? = some (fdD c nx rs dr)) : dSet (.obj n) (.p (.str "draws")) (.p (.int v)) M = some (M.set n (fdD c nx rs v)) := by
  unfold dSet; simp only [pur_p, h, fdD]; rw [if_pos (by rw [sizeLine_eq]; simp)]; rfl
end

/-! the laws' own source and draw (k49 ..) -/
noncomputable def sourceB : SFn :=
    sRet (eDisp [(eD (.p (.str "cells")), eCallB bList (aCons (eSl (eVar 0) (oNone) (oSome (eD (.p (.int 63))))) (aNil))), (eD (.p (.str "next")), eD (.p (.int 0))), (eD (.p (.str "rest")), eD (.p (.int 0))), (eD (.p (.str "draws")), eD (.p (.int 0)))])
noncomputable def drawB : SFn :=
    sSeq (sSet 2 (eBin dAdd (eBin dSub (eVar 0) (eD (.p (.str "draws")))) (eD (.p (.int 1)))))
    (sSeq (sSto (eVar 0) (eD (.p (.str "draws"))) (eVar 2))
    (sSeq (sIf (tVal (eBin (onP gGt) (eBin dSub (eVar 0) (eD (.p (.str "rest")))) (eD (.p (.int 0)))))
    (sSeq (sSet 3 (eBin (onP (ii iMod)) (eBin dSub (eVar 0) (eD (.p (.str "rest")))) (eVar 1)))
    (sSeq (sSto (eVar 0) (eD (.p (.str "rest"))) (eBin (onP (ii iDiv)) (eBin dSub (eVar 0) (eD (.p (.str "rest")))) (eVar 1)))
    (sRet (eVar 3))))
    (sNx))
    (sSeq (sSet 4 (eBin dSub (eVar 0) (eD (.p (.str "next")))))
    (sSeq (sSto (eVar 0) (eD (.p (.str "next"))) (eBin dAdd (eVar 4) (eD (.p (.int 1)))))
    (sSeq (sSet 5 (eD (.p (.int 17))))
    (sSeq (sIf (tVal (eBin (onP gNe) (eBin dSub (eVar 0) (eD (.p (.str "cells")))) (eLst (aNil))))
    (sSet 5 (eBin dSub (eBin dSub (eVar 0) (eD (.p (.str "cells")))) (eBin (onP (ii iMod)) (eVar 4) (eCallB bLen (aCons (eBin dSub (eVar 0) (eD (.p (.str "cells")))) (aNil))))))
    (sNx))
    (sSeq (sIf (tAnd (tVal (eBin (onP gGe) (eVar 5) (eBin (onP (ii iPow)) (eD (.p (.int 10))) (eD (.p (.int 18)))))) (tVal (eBin (onP gLt) (eVar 4) (eCallB bLen (aCons (eBin dSub (eVar 0) (eD (.p (.str "cells")))) (aNil))))))
    (sSeq (sSto (eVar 0) (eD (.p (.str "rest"))) (eBin (onP (ii iDiv)) (eVar 5) (eVar 1)))
    (sRet (eBin (onP (ii iMod)) (eVar 5) (eVar 1))))
    (sNx))
    (sSeq (sSet 6 (eBin (onP (ii iMod)) (eBin (onP (ii iPow)) (eBin dAdd (eBin dAdd (eBin (onP (ii iMod)) (eVar 5) (eD (.p (.int 2147483579)))) (eBin (onP (ii iMul)) (eD (.p (.int 8009))) (eVar 2))) (eD (.p (.int 13)))) (eD (.p (.int 5)))) (eD (.p (.int 2147483629)))))
    (sSeq (sSet 6 (eBin (onP (ii iMod)) (eBin (onP (ii iPow)) (eBin dAdd (eVar 6) (eBin (onP (ii iMul)) (eD (.p (.int 70001))) (eVar 2))) (eD (.p (.int 5)))) (eD (.p (.int 2147483647)))))
    (sRet (eBin (onP (ii iMod)) (eBin (onP (ii iDiv)) (eVar 6) (eD (.p (.int 128)))) (eVar 1))))))))))))

theorem get_set {M : Mem} {n : Nat} {o : MObj} (h : n < M.length) : (M.set n o)[n]? = some o := by rw [List.getElem?_set_self h]
theorem cell_at {c : List Int} {nx : Int} (h : c ≠ []) (hn : 0 ≤ nx) : ∃ x, atI (c.map PyData.int) (nx % (c.length : Int)) = some (.int x) := by
  have hl : 0 < c.length := List.length_pos_iff.mpr h
  have h1 : 0 ≤ nx % (c.length : Int) := Int.emod_nonneg _ (by omega)
  have h2 : nx % (c.length : Int) < c.length := Int.emod_lt_of_pos _ (by omega)
  obtain ⟨k, ek⟩ := Int.eq_ofNat_of_zero_le h1
  rw [ek] at h2 ⊢
  rw [atI_nat', List.getElem?_map, List.getElem?_eq_getElem (by omega)]
  exact ⟨_, rfl⟩
theorem gNe_nil (c : List Int) : gNe (.list (c.map .int)) (.list []) = some (.bool (!decide (c = []))) := gNe_toD (α := List Int) (by decide) c []
set_option maxHeartbeats 1000000 in
theorem draw_ok {M : Mem} {n b : Nat} {l : Int} (f : Fd M n b) (hb : b < 1099511627776) (h0 : 0 < l) (h1 : l < 1073741824) :
    Ok (defF 7 drawB [.obj n, .p (.int l)] M) fun e M' => ∃ v : Int, e = .d (.p (.int v)) ∧ 0 ≤ v ∧ v < l ∧ Fd M' n (b + 1) ∧ Mo n M M' := by
  obtain ⟨c, nx, rs, dr, hM, hn, hd, hd2⟩ := f
  have hl := (List.getElem?_eq_some_iff.mp hM).1
  have done : ∀ (c' : List Int) (nx' rs' : Int) (M1 : Mem) (v : Int), M1[n]? = some (fdD c' nx' rs' (dr + 1)) → 0 ≤ nx' → Mo n M M1 → 0 ≤ v → v < l → ∃ w : Int, Ev.d (.p (.int v)) = .d (.p (.int w)) ∧ 0 ≤ w ∧ w < l ∧ Fd (M1.take M.length) n (b + 1) ∧ Mo n M (M1.take M.length) := by
    intro c' nx' rs' M1 v e hx mo hv1 hv2
    have e2 : M1.take M.length = M1 := List.take_of_length_le (by rw [mo.1]; exact Nat.le_refl _)
    rw [e2]
    exact ⟨v, rfl, hv1, hv2, ⟨c', nx', rs', dr + 1, e, hx, by omega, by omega⟩, mo⟩
  have g1 : (M.set n (fdD c nx rs (dr + 1)))[n]? = some (fdD c nx rs (dr + 1)) := get_set hl
  have m1 : Mo n M (M.set n (fdD c nx rs (dr + 1))) := Mo.set
  rw [ok_defF]
  show Ok (drawB [some (.obj n), some (.p (.int l)), none, none, none, none, none] M) _
  unfold drawB
  simp only [ok_eBin, ok_eUn, ok_eVar, ok_eD, ok_eIf, ok_tVal, ok_tNot, ok_tAnd, ok_tOr, ok_tTrue, ok_aNil, ok_aCons, ok_eTup, ok_eLst, ok_eCallB, ok_eSl, ok_oNone, ok_oSome, ok_eNot, ok_eAnd, ok_eOr, ok_eAl, ok_eCallU, ok_eMth, ok_sSeq, ok_sNx, ok_sBk, ok_sCt, ok_sDrop, ok_sRet, ok_sRetN, ok_sIf, ok_sSet, ok_sPar, ok_sSto, ok_sFor, ok_iE, ok_iRg, ok_eLc, ok_defF, ok_eDisp, ok_eDNew, pair_nil, pair_cons, Turn_nx, Turn_ct, Turn_bk, Turn_rt, List.take_length, startE, List.map_cons, List.map_nil, Nat.reduceSub, List.replicate_succ, List.replicate_zero, List.append_nil, Ok_ok, Ok_bad, Ok_err, Ok_ne, Ok_stl, List.getElem?_cons_zero, List.getElem?_cons_succ, List.set_cons_zero, List.set_cons_succ, Option.some.injEq, exists_eq_left', exists_eq_left, Ev.stl_d, Ev.stl_new, pv_p, pur_p, purs_nil, purs_p, onP_p, ii_int, Option.map_some, Option.bind_some, D.p.injEq, PyData.int.injEq, PyData.bool.injEq, PyData.str.injEq, PyData.tuple.injEq, PyData.list.injEq, Bool.false_eq_true, if_false, if_true, exists_two, and_true, true_and, and_self, dAdd_int, planD_nil, planD_at, planD_df, List.length_cons, List.length_nil, List.nil_append, List.cons_append, Nat.zero_add, Nat.reduceAdd, exists_some2, exists_pair2, Nat.zero_le, le_line1, le_line2, le_line3, le_line4, le_line5, le_line6, le_line7, le_line8, le_line9, le_line10, le_line11, le_line12, wipeE_nil, wipeE_cons, MObj.toP, fin_d, fin_new, Seq_nx, Seq_bk, Seq_ct, Seq_rt, Br_true, Br_false, decide_true, decide_false, Bool.not_true, Bool.not_false, fd_draws hM, fd_setD hM, fd_rest g1, gGt_int]
  generalize hM1 : M.set n (fdD c nx rs (dr + 1)) = M1 at g1 m1 ⊢
  have l1 : n < M1.length := (List.getElem?_eq_some_iff.mp g1).1
  refine Br.by (fun hr => ?_) (fun hr => ?_)
  · -- digit by digit
    simp only [ok_eBin, ok_eUn, ok_eVar, ok_eD, ok_eIf, ok_tVal, ok_tNot, ok_tAnd, ok_tOr, ok_tTrue, ok_aNil, ok_aCons, ok_eTup, ok_eLst, ok_eCallB, ok_eSl, ok_oNone, ok_oSome, ok_eNot, ok_eAnd, ok_eOr, ok_eAl, ok_eCallU, ok_eMth, ok_sSeq, ok_sNx, ok_sBk, ok_sCt, ok_sDrop, ok_sRet, ok_sRetN, ok_sIf, ok_sSet, ok_sPar, ok_sSto, ok_sFor, ok_iE, ok_iRg, ok_eLc, ok_defF, ok_eDisp, ok_eDNew, pair_nil, pair_cons, Turn_nx, Turn_ct, Turn_bk, Turn_rt, List.take_length, startE, List.map_cons, List.map_nil, Nat.reduceSub, List.replicate_succ, List.replicate_zero, List.append_nil, Ok_ok, Ok_bad, Ok_err, Ok_ne, Ok_stl, List.getElem?_cons_zero, List.getElem?_cons_succ, List.set_cons_zero, List.set_cons_succ, Option.some.injEq, exists_eq_left', exists_eq_left, Ev.stl_d, Ev.stl_new, pv_p, pur_p, purs_nil, purs_p, onP_p, ii_int, Option.map_some, Option.bind_some, D.p.injEq, PyData.int.injEq, PyData.bool.injEq, PyData.str.injEq, PyData.tuple.injEq, PyData.list.injEq, Bool.false_eq_true, if_false, if_true, exists_two, and_true, true_and, and_self, dAdd_int, planD_nil, planD_at, planD_df, List.length_cons, List.length_nil, List.nil_append, List.cons_append, Nat.zero_add, Nat.reduceAdd, exists_some2, exists_pair2, Nat.zero_le, le_line1, le_line2, le_line3, le_line4, le_line5, le_line6, le_line7, le_line8, le_line9, le_line10, le_line11, le_line12, wipeE_nil, wipeE_cons, MObj.toP, fin_d, fin_new, Seq_nx, Seq_bk, Seq_ct, Seq_rt, Br_true, Br_false, decide_true, decide_false, Bool.not_true, Bool.not_false, fd_rest g1, iMod_pos h0, iDiv_pos h0 h1, fd_setR g1]
    exact done c nx _ _ _ (get_set l1) hn (m1.trans Mo.set) (Int.emod_nonneg _ (by omega)) (Int.emod_lt_of_pos _ h0)
  · have g2 : (M1.set n (fdD c (nx + 1) rs (dr + 1)))[n]? = some (fdD c (nx + 1) rs (dr + 1)) := get_set l1
    simp only [ok_eBin, ok_eUn, ok_eVar, ok_eD, ok_eIf, ok_tVal, ok_tNot, ok_tAnd, ok_tOr, ok_tTrue, ok_aNil, ok_aCons, ok_eTup, ok_eLst, ok_eCallB, ok_eSl, ok_oNone, ok_oSome, ok_eNot, ok_eAnd, ok_eOr, ok_eAl, ok_eCallU, ok_eMth, ok_sSeq, ok_sNx, ok_sBk, ok_sCt, ok_sDrop, ok_sRet, ok_sRetN, ok_sIf, ok_sSet, ok_sPar, ok_sSto, ok_sFor, ok_iE, ok_iRg, ok_eLc, ok_defF, ok_eDisp, ok_eDNew, pair_nil, pair_cons, Turn_nx, Turn_ct, Turn_bk, Turn_rt, List.take_length, startE, List.map_cons, List.map_nil, Nat.reduceSub, List.replicate_succ, List.replicate_zero, List.append_nil, Ok_ok, Ok_bad, Ok_err, Ok_ne, Ok_stl, List.getElem?_cons_zero, List.getElem?_cons_succ, List.set_cons_zero, List.set_cons_succ, Option.some.injEq, exists_eq_left', exists_eq_left, Ev.stl_d, Ev.stl_new, pv_p, pur_p, purs_nil, purs_p, onP_p, ii_int, Option.map_some, Option.bind_some, D.p.injEq, PyData.int.injEq, PyData.bool.injEq, PyData.str.injEq, PyData.tuple.injEq, PyData.list.injEq, Bool.false_eq_true, if_false, if_true, exists_two, and_true, true_and, and_self, dAdd_int, planD_nil, planD_at, planD_df, List.length_cons, List.length_nil, List.nil_append, List.cons_append, Nat.zero_add, Nat.reduceAdd, exists_some2, exists_pair2, Nat.zero_le, le_line1, le_line2, le_line3, le_line4, le_line5, le_line6, le_line7, le_line8, le_line9, le_line10, le_line11, le_line12, wipeE_nil, wipeE_cons, MObj.toP, fin_d, fin_new, Seq_nx, Seq_bk, Seq_ct, Seq_rt, Br_true, Br_false, decide_true, decide_false, Bool.not_true, Bool.not_false, fd_next g1, fd_setN g1, fd_cells g2, gNe_nil]
    generalize hM2 : M1.set n (fdD c (nx + 1) rs (dr + 1)) = M2 at g2 ⊢
    have m2 : Mo n M M2 := m1.trans (by rw [← hM2]; exact Mo.set)
    have l2 : n < M2.length := (List.getElem?_eq_some_iff.mp g2).1
    -- behind the choice of the cell
    have rest : ∀ x : Int, Ok ((sSeq (sIf (tAnd (tVal (eBin (onP gGe) (eVar 5) (eBin (onP (ii iPow)) (eD (.p (.int 10))) (eD (.p (.int 18)))))) (tVal (eBin (onP gLt) (eVar 4) (eCallB bLen (aCons (eBin dSub (eVar 0) (eD (.p (.str "cells")))) (aNil)))))) (sSeq (sSto (eVar 0) (eD (.p (.str "rest"))) (eBin (onP (ii iDiv)) (eVar 5) (eVar 1))) (sRet (eBin (onP (ii iMod)) (eVar 5) (eVar 1)))) (sNx)) (sSeq (sSet 6 (eBin (onP (ii iMod)) (eBin (onP (ii iPow)) (eBin dAdd (eBin dAdd (eBin (onP (ii iMod)) (eVar 5) (eD (.p (.int 2147483579)))) (eBin (onP (ii iMul)) (eD (.p (.int 8009))) (eVar 2))) (eD (.p (.int 13)))) (eD (.p (.int 5)))) (eD (.p (.int 2147483629))))) (sSeq (sSet 6 (eBin (onP (ii iMod)) (eBin (onP (ii iPow)) (eBin dAdd (eVar 6) (eBin (onP (ii iMul)) (eD (.p (.int 70001))) (eVar 2))) (eD (.p (.int 5)))) (eD (.p (.int 2147483647))))) (sRet (eBin (onP (ii iMod)) (eBin (onP (ii iDiv)) (eVar 6) (eD (.p (.int 128)))) (eVar 1)))))) [some (.obj n), some (.p (.int l)), some (.p (.int (dr + 1))), none, some (.p (.int nx)), some (.p (.int x)), none] M2)
        fun o M1 => Ok (fin (List.length M) (Res.ok o M1)) fun e M' => ∃ v : Int, e = Ev.d (D.p (PyData.int v)) ∧ 0 ≤ v ∧ v < l ∧ Fd M' n (b + 1) ∧ Mo n M M' := by
      intro x
      have p1 : iPow 10 18 = some (.int (10 ^ 18)) := iPow_ok (j := 18) (by decide) (by decide) (by decide)
      have tail : Ok ((sSeq (sSet 6 (eBin (onP (ii iMod)) (eBin (onP (ii iPow)) (eBin dAdd (eBin dAdd (eBin (onP (ii iMod)) (eVar 5) (eD (.p (.int 2147483579)))) (eBin (onP (ii iMul)) (eD (.p (.int 8009))) (eVar 2))) (eD (.p (.int 13)))) (eD (.p (.int 5)))) (eD (.p (.int 2147483629))))) (sSeq (sSet 6 (eBin (onP (ii iMod)) (eBin (onP (ii iPow)) (eBin dAdd (eVar 6) (eBin (onP (ii iMul)) (eD (.p (.int 70001))) (eVar 2))) (eD (.p (.int 5)))) (eD (.p (.int 2147483647))))) (sRet (eBin (onP (ii iMod)) (eBin (onP (ii iDiv)) (eVar 6) (eD (.p (.int 128)))) (eVar 1))))) [some (.obj n), some (.p (.int l)), some (.p (.int (dr + 1))), none, some (.p (.int nx)), some (.p (.int x)), none] M2)
          fun o M1 => Ok (fin (List.length M) (Res.ok o M1)) fun e M' => ∃ v : Int, e = Ev.d (D.p (PyData.int v)) ∧ 0 ≤ v ∧ v < l ∧ Fd M' n (b + 1) ∧ Mo n M M' := by
        have a1 := Int.emod_nonneg x (show (2147483579 : Int) ≠ 0 by decide)
        have a2 := Int.emod_lt_of_pos x (show (0 : Int) < 2147483579 by decide)
        have q1 : iPow (x % 2147483579 + 8009 * (dr + 1) + 13) 5 = some (.int ((x % 2147483579 + 8009 * (dr + 1) + 13) ^ 5)) := iPow_ok (j := 5) (by omega) (by omega) (by decide)
        generalize hy : (x % 2147483579 + 8009 * (dr + 1) + 13) ^ 5 % 2147483629 = y
        have b1 : 0 ≤ y := by rw [← hy]; exact Int.emod_nonneg _ (by decide)
        have b2 : y < 2147483629 := by rw [← hy]; exact Int.emod_lt_of_pos _ (by decide)
        have q2 : iPow (y + 70001 * (dr + 1)) 5 = some (.int ((y + 70001 * (dr + 1)) ^ 5)) := iPow_ok (j := 5) (by omega) (by omega) (by decide)
        have r1 : iMod x 2147483579 = some (.int (x % 2147483579)) := iMod_pos (by decide)
        have r2 : iMul 8009 (dr + 1) = some (.int (8009 * (dr + 1))) := iMul_l (by decide) (by decide)
        have r3 : iMul 70001 (dr + 1) = some (.int (70001 * (dr + 1))) := iMul_l (by decide) (by decide)
        have r4 : ∀ z : Int, iMod z 2147483629 = some (.int (z % 2147483629)) := fun z => iMod_pos (by decide)
        have r5 : ∀ z : Int, iMod z 2147483647 = some (.int (z % 2147483647)) := fun z => iMod_pos (by decide)
        have r6 : ∀ z : Int, iDiv z 128 = some (.int (z / 128)) := fun z => iDiv_pos (by decide) (by decide)
        simp only [ok_eBin, ok_eUn, ok_eVar, ok_eD, ok_eIf, ok_tVal, ok_tNot, ok_tAnd, ok_tOr, ok_tTrue, ok_aNil, ok_aCons, ok_eTup, ok_eLst, ok_eCallB, ok_eSl, ok_oNone, ok_oSome, ok_eNot, ok_eAnd, ok_eOr, ok_eAl, ok_eCallU, ok_eMth, ok_sSeq, ok_sNx, ok_sBk, ok_sCt, ok_sDrop, ok_sRet, ok_sRetN, ok_sIf, ok_sSet, ok_sPar, ok_sSto, ok_sFor, ok_iE, ok_iRg, ok_eLc, ok_defF, ok_eDisp, ok_eDNew, pair_nil, pair_cons, Turn_nx, Turn_ct, Turn_bk, Turn_rt, List.take_length, startE, List.map_cons, List.map_nil, Nat.reduceSub, List.replicate_succ, List.replicate_zero, List.append_nil, Ok_ok, Ok_bad, Ok_err, Ok_ne, Ok_stl, List.getElem?_cons_zero, List.getElem?_cons_succ, List.set_cons_zero, List.set_cons_succ, Option.some.injEq, exists_eq_left', exists_eq_left, Ev.stl_d, Ev.stl_new, pv_p, pur_p, purs_nil, purs_p, onP_p, ii_int, Option.map_some, Option.bind_some, D.p.injEq, PyData.int.injEq, PyData.bool.injEq, PyData.str.injEq, PyData.tuple.injEq, PyData.list.injEq, Bool.false_eq_true, if_false, if_true, exists_two, and_true, true_and, and_self, dAdd_int, planD_nil, planD_at, planD_df, List.length_cons, List.length_nil, List.nil_append, List.cons_append, Nat.zero_add, Nat.reduceAdd, exists_some2, exists_pair2, Nat.zero_le, le_line1, le_line2, le_line3, le_line4, le_line5, le_line6, le_line7, le_line8, le_line9, le_line10, le_line11, le_line12, wipeE_nil, wipeE_cons, MObj.toP, fin_d, fin_new, Seq_nx, Seq_bk, Seq_ct, Seq_rt, Br_true, Br_false, decide_true, decide_false, Bool.not_true, Bool.not_false, r1, r2, q1, r4, hy, r3, q2, r5, r6, iMod_pos h0]
        exact done c (nx + 1) rs M2 _ g2 (by omega) m2 (Int.emod_nonneg _ (by omega)) (Int.emod_lt_of_pos _ h0)
      simp only [ok_sSeq, ok_sIf, ok_tAnd, ok_tVal, ok_eBin, ok_eVar, ok_eD, ok_eBin, ok_eUn, ok_eVar, ok_eD, ok_eIf, ok_tVal, ok_tNot, ok_tAnd, ok_tOr, ok_tTrue, ok_aNil, ok_aCons, ok_eTup, ok_eLst, ok_eCallB, ok_eSl, ok_oNone, ok_oSome, ok_eNot, ok_eAnd, ok_eOr, ok_eAl, ok_eCallU, ok_eMth, ok_sSeq, ok_sNx, ok_sBk, ok_sCt, ok_sDrop, ok_sRet, ok_sRetN, ok_sIf, ok_sSet, ok_sPar, ok_sSto, ok_sFor, ok_iE, ok_iRg, ok_eLc, ok_defF, ok_eDisp, ok_eDNew, pair_nil, pair_cons, Turn_nx, Turn_ct, Turn_bk, Turn_rt, List.take_length, startE, List.map_cons, List.map_nil, Nat.reduceSub, List.replicate_succ, List.replicate_zero, List.append_nil, Ok_ok, Ok_bad, Ok_err, Ok_ne, Ok_stl, List.getElem?_cons_zero, List.getElem?_cons_succ, List.set_cons_zero, List.set_cons_succ, Option.some.injEq, exists_eq_left', exists_eq_left, Ev.stl_d, Ev.stl_new, pv_p, pur_p, purs_nil, purs_p, onP_p, ii_int, Option.map_some, Option.bind_some, D.p.injEq, PyData.int.injEq, PyData.bool.injEq, PyData.str.injEq, PyData.tuple.injEq, PyData.list.injEq, Bool.false_eq_true, if_false, if_true, exists_two, and_true, true_and, and_self, dAdd_int, planD_nil, planD_at, planD_df, List.length_cons, List.length_nil, List.nil_append, List.cons_append, Nat.zero_add, Nat.reduceAdd, exists_some2, exists_pair2, Nat.zero_le, le_line1, le_line2, le_line3, le_line4, le_line5, le_line6, le_line7, le_line8, le_line9, le_line10, le_line11, le_line12, wipeE_nil, wipeE_cons, MObj.toP, fin_d, fin_new, Seq_nx, Seq_bk, Seq_ct, Seq_rt, Br_true, Br_false, decide_true, decide_false, Bool.not_true, Bool.not_false, p1, gGe_int]
      refine Br.by (fun hq => ?_) (fun hq => ?_)
      · simp only [ok_eBin, ok_eUn, ok_eVar, ok_eD, ok_eIf, ok_tVal, ok_tNot, ok_tAnd, ok_tOr, ok_tTrue, ok_aNil, ok_aCons, ok_eTup, ok_eLst, ok_eCallB, ok_eSl, ok_oNone, ok_oSome, ok_eNot, ok_eAnd, ok_eOr, ok_eAl, ok_eCallU, ok_eMth, ok_sSeq, ok_sNx, ok_sBk, ok_sCt, ok_sDrop, ok_sRet, ok_sRetN, ok_sIf, ok_sSet, ok_sPar, ok_sSto, ok_sFor, ok_iE, ok_iRg, ok_eLc, ok_defF, ok_eDisp, ok_eDNew, pair_nil, pair_cons, Turn_nx, Turn_ct, Turn_bk, Turn_rt, List.take_length, startE, List.map_cons, List.map_nil, Nat.reduceSub, List.replicate_succ, List.replicate_zero, List.append_nil, Ok_ok, Ok_bad, Ok_err, Ok_ne, Ok_stl, List.getElem?_cons_zero, List.getElem?_cons_succ, List.set_cons_zero, List.set_cons_succ, Option.some.injEq, exists_eq_left', exists_eq_left, Ev.stl_d, Ev.stl_new, pv_p, pur_p, purs_nil, purs_p, onP_p, ii_int, Option.map_some, Option.bind_some, D.p.injEq, PyData.int.injEq, PyData.bool.injEq, PyData.str.injEq, PyData.tuple.injEq, PyData.list.injEq, Bool.false_eq_true, if_false, if_true, exists_two, and_true, true_and, and_self, dAdd_int, planD_nil, planD_at, planD_df, List.length_cons, List.length_nil, List.nil_append, List.cons_append, Nat.zero_add, Nat.reduceAdd, exists_some2, exists_pair2, Nat.zero_le, le_line1, le_line2, le_line3, le_line4, le_line5, le_line6, le_line7, le_line8, le_line9, le_line10, le_line11, le_line12, wipeE_nil, wipeE_cons, MObj.toP, fin_d, fin_new, Seq_nx, Seq_bk, Seq_ct, Seq_rt, Br_true, Br_false, decide_true, decide_false, Bool.not_true, Bool.not_false, fd_cells g2, len_list, gLt_int]
        refine Br.by (fun hq => ?_) (fun hq => ?_)
        · simp only [ok_eBin, ok_eUn, ok_eVar, ok_eD, ok_eIf, ok_tVal, ok_tNot, ok_tAnd, ok_tOr, ok_tTrue, ok_aNil, ok_aCons, ok_eTup, ok_eLst, ok_eCallB, ok_eSl, ok_oNone, ok_oSome, ok_eNot, ok_eAnd, ok_eOr, ok_eAl, ok_eCallU, ok_eMth, ok_sSeq, ok_sNx, ok_sBk, ok_sCt, ok_sDrop, ok_sRet, ok_sRetN, ok_sIf, ok_sSet, ok_sPar, ok_sSto, ok_sFor, ok_iE, ok_iRg, ok_eLc, ok_defF, ok_eDisp, ok_eDNew, pair_nil, pair_cons, Turn_nx, Turn_ct, Turn_bk, Turn_rt, List.take_length, startE, List.map_cons, List.map_nil, Nat.reduceSub, List.replicate_succ, List.replicate_zero, List.append_nil, Ok_ok, Ok_bad, Ok_err, Ok_ne, Ok_stl, List.getElem?_cons_zero, List.getElem?_cons_succ, List.set_cons_zero, List.set_cons_succ, Option.some.injEq, exists_eq_left', exists_eq_left, Ev.stl_d, Ev.stl_new, pv_p, pur_p, purs_nil, purs_p, onP_p, ii_int, Option.map_some, Option.bind_some, D.p.injEq, PyData.int.injEq, PyData.bool.injEq, PyData.str.injEq, PyData.tuple.injEq, PyData.list.injEq, Bool.false_eq_true, if_false, if_true, exists_two, and_true, true_and, and_self, dAdd_int, planD_nil, planD_at, planD_df, List.length_cons, List.length_nil, List.nil_append, List.cons_append, Nat.zero_add, Nat.reduceAdd, exists_some2, exists_pair2, Nat.zero_le, le_line1, le_line2, le_line3, le_line4, le_line5, le_line6, le_line7, le_line8, le_line9, le_line10, le_line11, le_line12, wipeE_nil, wipeE_cons, MObj.toP, fin_d, fin_new, Seq_nx, Seq_bk, Seq_ct, Seq_rt, Br_true, Br_false, decide_true, decide_false, Bool.not_true, Bool.not_false, iMod_pos h0, iDiv_pos h0 h1, fd_setR g2]
          exact done c (nx + 1) _ _ _ (get_set l2) (by omega) (m2.trans Mo.set) (Int.emod_nonneg _ (by omega)) (Int.emod_lt_of_pos _ h0)
        · simp only [Seq_nx, ok_sNx]
          exact tail
      · simp only [Ok_ok, Br_false, Seq_nx, ok_sNx]
        exact tail
    refine Br.by (fun hc => ?_) (fun hc => ?_)
    · have hc' : c ≠ [] := by simpa using hc
      have hp : (0 : Int) < (c.length : Int) := by have := List.length_pos_iff.mpr hc'; omega
      obtain ⟨x, ex⟩ := cell_at hc' hn
      simp only [ok_eBin, ok_eUn, ok_eVar, ok_eD, ok_eIf, ok_tVal, ok_tNot, ok_tAnd, ok_tOr, ok_tTrue, ok_aNil, ok_aCons, ok_eTup, ok_eLst, ok_eCallB, ok_eSl, ok_oNone, ok_oSome, ok_eNot, ok_eAnd, ok_eOr, ok_eAl, ok_eCallU, ok_eMth, ok_sSeq, ok_sNx, ok_sBk, ok_sCt, ok_sDrop, ok_sRet, ok_sRetN, ok_sIf, ok_sSet, ok_sPar, ok_sSto, ok_sFor, ok_iE, ok_iRg, ok_eLc, ok_defF, ok_eDisp, ok_eDNew, pair_nil, pair_cons, Turn_nx, Turn_ct, Turn_bk, Turn_rt, List.take_length, startE, List.map_cons, List.map_nil, Nat.reduceSub, List.replicate_succ, List.replicate_zero, List.append_nil, Ok_ok, Ok_bad, Ok_err, Ok_ne, Ok_stl, List.getElem?_cons_zero, List.getElem?_cons_succ, List.set_cons_zero, List.set_cons_succ, Option.some.injEq, exists_eq_left', exists_eq_left, Ev.stl_d, Ev.stl_new, pv_p, pur_p, purs_nil, purs_p, onP_p, ii_int, Option.map_some, Option.bind_some, D.p.injEq, PyData.int.injEq, PyData.bool.injEq, PyData.str.injEq, PyData.tuple.injEq, PyData.list.injEq, Bool.false_eq_true, if_false, if_true, exists_two, and_true, true_and, and_self, dAdd_int, planD_nil, planD_at, planD_df, List.length_cons, List.length_nil, List.nil_append, List.cons_append, Nat.zero_add, Nat.reduceAdd, exists_some2, exists_pair2, Nat.zero_le, le_line1, le_line2, le_line3, le_line4, le_line5, le_line6, le_line7, le_line8, le_line9, le_line10, le_line11, le_line12, wipeE_nil, wipeE_cons, MObj.toP, fin_d, fin_new, Seq_nx, Seq_bk, Seq_ct, Seq_rt, Br_true, Br_false, decide_true, decide_false, Bool.not_true, Bool.not_false, fd_cells g2, len_list, List.length_map, iMod_pos hp, sub_list, ex]
      have r := rest x
      simp only [ok_eBin, ok_eUn, ok_eVar, ok_eD, ok_eIf, ok_tVal, ok_tNot, ok_tAnd, ok_tOr, ok_tTrue, ok_aNil, ok_aCons, ok_eTup, ok_eLst, ok_eCallB, ok_eSl, ok_oNone, ok_oSome, ok_eNot, ok_eAnd, ok_eOr, ok_eAl, ok_eCallU, ok_eMth, ok_sSeq, ok_sNx, ok_sBk, ok_sCt, ok_sDrop, ok_sRet, ok_sRetN, ok_sIf, ok_sSet, ok_sPar, ok_sSto, ok_sFor, ok_iE, ok_iRg, ok_eLc, ok_defF, ok_eDisp, ok_eDNew, pair_nil, pair_cons, Turn_nx, Turn_ct, Turn_bk, Turn_rt, List.take_length, startE, List.map_cons, List.map_nil, Nat.reduceSub, List.replicate_succ, List.replicate_zero, List.append_nil, Ok_ok, Ok_bad, Ok_err, Ok_ne, Ok_stl, List.getElem?_cons_zero, List.getElem?_cons_succ, List.set_cons_zero, List.set_cons_succ, Option.some.injEq, exists_eq_left', exists_eq_left, Ev.stl_d, Ev.stl_new, pv_p, pur_p, purs_nil, purs_p, onP_p, ii_int, Option.map_some, Option.bind_some, D.p.injEq, PyData.int.injEq, PyData.bool.injEq, PyData.str.injEq, PyData.tuple.injEq, PyData.list.injEq, Bool.false_eq_true, if_false, if_true, exists_two, and_true, true_and, and_self, dAdd_int, planD_nil, planD_at, planD_df, List.length_cons, List.length_nil, List.nil_append, List.cons_append, Nat.zero_add, Nat.reduceAdd, exists_some2, exists_pair2, Nat.zero_le, le_line1, le_line2, le_line3, le_line4, le_line5, le_line6, le_line7, le_line8, le_line9, le_line10, le_line11, le_line12, wipeE_nil, wipeE_cons, MObj.toP, fin_d, fin_new, Seq_nx, Seq_bk, Seq_ct, Seq_rt, Br_true, Br_false, decide_true, decide_false, Bool.not_true, Bool.not_false] at r
      exact r
    · simp only [Seq_nx, ok_sNx]
      exact rest 17
theorem Fd.app {M R : Mem} {n b : Nat} (h : Fd M n b) : Fd (M ++ R) n b := by
  obtain ⟨c, nx, rs, dr, e, r⟩ := h
  exact ⟨c, nx, rs, dr, by rw [List.getElem?_append_left (List.getElem?_eq_some_iff.mp e).1]; exact e, r⟩
theorem Mo.app {M M' R : Mem} {n : Nat} (h : Mo n M M') : Mo n (M ++ R) (M' ++ R) := by
  refine ⟨by rw [List.length_append, List.length_append, h.1], fun i hi => ?_⟩
  by_cases hl : i < M.length
  · rw [List.getElem?_append_left hl, List.getElem?_append_left (by rw [h.1]; exact hl)]; exact h.2 i hi
  · have h1 := h.1
    rw [List.getElem?_append_right (show M'.length ≤ i by omega), List.getElem?_append_right (show M.length ≤ i by omega), h1]
/-- what stands behind stays -/
theorem Mo.split {M R M' : Mem} {n b : Nat} (h : Mo n (M ++ R) M') (hn : n < M.length) (f : Fd M' n b) : ∃ M0, M' = M0 ++ R ∧ Mo n M M0 ∧ Fd M0 n b := by
  have hl : M'.length = M.length + R.length := by rw [h.1, List.length_append]
  refine ⟨M'.take M.length, ?_, ⟨by rw [List.length_take]; omega, fun i hi => ?_⟩, ?_⟩
  · apply List.ext_getElem?
    intro i
    by_cases hi : i < M.length
    · rw [List.getElem?_append_left (by rw [List.length_take]; omega), List.getElem?_take_of_lt hi]
    · have e := h.2 i (by omega)
      rw [e, List.getElem?_append_right (by omega), List.getElem?_append_right (by rw [List.length_take]; omega), List.length_take]
      congr 1
      omega
  · by_cases hl2 : i < M.length
    · rw [List.getElem?_take_of_lt hl2, h.2 i hi, List.getElem?_append_left hl2]
    · rw [List.getElem?_eq_none (by rw [List.length_take]; omega), List.getElem?_eq_none (by omega)]
  · obtain ⟨c, nx, rs, dr, e, r⟩ := f
    exact ⟨c, nx, rs, dr, by rw [List.getElem?_take_of_lt hn]; exact e, r⟩
end Cb

set_option Elab.async false
set_option linter.all false
set_option maxRecDepth 100000
namespace LK49
open PySem PySem.Spec PyProof.Rows L2 Cb
def topS (i : Nat) : Stmt := PySem.Challenge.pw_crewbook_k49_good_crews_told.main.body.getD i (.Pass ⟨0, 0, 0, 0⟩)
abbrev s__law_source : Stmt := topS 7
abbrev s__law_draw : Stmt := topS 8
abbrev s__law_sample : Stmt := topS 9
abbrev s__law_is_within : Stmt := topS 11
abbrev s__law_make_teams : Stmt := topS 10
abbrev s__law_all_sets : Stmt := topS 13
abbrev s__law_make_good : Stmt := topS 12
abbrev s__law_make_any : Stmt := topS 17
abbrev s__law_but : Stmt := topS 14
abbrev s__law_exchanges : Stmt := topS 16
abbrev s__law_is_good : Stmt := topS 15
abbrev s_replaced : Stmt := topS 1
abbrev s_can_replace : Stmt := topS 2
abbrev s_has_exchanges : Stmt := topS 3
abbrev s_is_good : Stmt := topS 5
abbrev s_law : Stmt := topS 18
/-- where the defs stand, what is not bound -/
structure LF (Z : Wd) where
  f__law_source : Addr
  fd__law_source : FuncData
  F__law_source : DefAt Z "_law_source" s__law_source f__law_source fd__law_source
  f__law_draw : Addr
  fd__law_draw : FuncData
  F__law_draw : DefAt Z "_law_draw" s__law_draw f__law_draw fd__law_draw
  f__law_sample : Addr
  fd__law_sample : FuncData
  F__law_sample : DefAt Z "_law_sample" s__law_sample f__law_sample fd__law_sample
  f__law_is_within : Addr
  fd__law_is_within : FuncData
  F__law_is_within : DefAt Z "_law_is_within" s__law_is_within f__law_is_within fd__law_is_within
  f__law_make_teams : Addr
  fd__law_make_teams : FuncData
  F__law_make_teams : DefAt Z "_law_make_teams" s__law_make_teams f__law_make_teams fd__law_make_teams
  f__law_all_sets : Addr
  fd__law_all_sets : FuncData
  F__law_all_sets : DefAt Z "_law_all_sets" s__law_all_sets f__law_all_sets fd__law_all_sets
  f__law_make_good : Addr
  fd__law_make_good : FuncData
  F__law_make_good : DefAt Z "_law_make_good" s__law_make_good f__law_make_good fd__law_make_good
  f__law_make_any : Addr
  fd__law_make_any : FuncData
  F__law_make_any : DefAt Z "_law_make_any" s__law_make_any f__law_make_any fd__law_make_any
  f__law_but : Addr
  fd__law_but : FuncData
  F__law_but : DefAt Z "_law_but" s__law_but f__law_but fd__law_but
  f__law_exchanges : Addr
  fd__law_exchanges : FuncData
  F__law_exchanges : DefAt Z "_law_exchanges" s__law_exchanges f__law_exchanges fd__law_exchanges
  f__law_is_good : Addr
  fd__law_is_good : FuncData
  F__law_is_good : DefAt Z "_law_is_good" s__law_is_good f__law_is_good fd__law_is_good
  f_replaced : Addr
  fd_replaced : FuncData
  F_replaced : DefAt Z "replaced" s_replaced f_replaced fd_replaced
  f_can_replace : Addr
  fd_can_replace : FuncData
  F_can_replace : DefAt Z "can_replace" s_can_replace f_can_replace fd_can_replace
  f_has_exchanges : Addr
  fd_has_exchanges : FuncData
  F_has_exchanges : DefAt Z "has_exchanges" s_has_exchanges f_has_exchanges fd_has_exchanges
  f_is_good : Addr
  fd_is_good : FuncData
  F_is_good : DefAt Z "is_good" s_is_good f_is_good fd_is_good
  f_law : Addr
  fd_law : FuncData
  F_law : DefAt Z "law" s_law f_law fd_law
  z_all : Z.mg "all" = none
  z_any : Z.mg "any" = none
  z_len : Z.mg "len" = none
  z_list : Z.mg "list" = none
  z_max : Z.mg "max" = none
  z_min : Z.mg "min" = none
  z_range : Z.mg "range" = none
  z_repr : Z.mg "repr" = none
  z_sorted : Z.mg "sorted" = none
  z_tuple : Z.mg "tuple" = none
theorem sc__law_source : FnScope ["_law_script"] ["_law_script"] (defScope s__law_source) := ⟨rfl, rfl, rfl, by decide +kernel, rfl, by decide +kernel, by decide +kernel⟩
noncomputable def φ__law_source : SFn :=
    sRet (eDisp [(eD (.p (.str "cells")), eCallB bList (aCons (eSl (eVar 0) (oNone) (oSome (eD (.p (.int 63))))) (aNil))), (eD (.p (.str "next")), eD (.p (.int 0))), (eD (.p (.str "rest")), eD (.p (.int 0))), (eD (.p (.str "draws")), eD (.p (.int 0)))])
noncomputable def fs__law_source : FS := defF 1 φ__law_source
theorem F__law_source {Z : Wd} (D : LF Z) : FnG Z 1 D.f__law_source D.fd__law_source ["_law_script"] fs__law_source :=
  def_ok (N := ["_law_script"]) (U := [0]) (χ := φ__law_source) D.F__law_source sc__law_source fun X E g =>
    bd_one (sd_ret (pd_disp (.cons (pd_str (by decide)) (b_list (g.toGd).nx D.z_list rfl (ad_cons rfl (pd_slice (g_var (g.toGd).nx rfl rfl rfl rfl) (od_none) (od_some (pd_int))) (ad_nil)) rfl) (.cons (pd_str (by decide)) (pd_int) (.cons (pd_str (by decide)) (pd_int) (.cons (pd_str (by decide)) (pd_int) (.nil))))) (by decide) (by decide)))
theorem B11 {Z : Wd} (D : LF Z) : BindsG Z.K D.fd__law_source ["_law_script"] 1 [] [.at 0] := binds_pos D.F__law_source rfl (fun us hl => match us, hl with | [a0], _ => rfl) (by simp) fun _ _ _ _ _ _ us hl => match us, hl with | [a0], _ => rfl
theorem sc__law_draw : FnScope ["_law_rng", "_law_limit", "_law_draws", "_law_digit", "_law_index", "_law_cell", "_law_mixed"] ["_law_rng", "_law_limit"] (defScope s__law_draw) := ⟨rfl, rfl, rfl, by decide +kernel, rfl, by decide +kernel, by decide +kernel⟩
noncomputable def φ__law_draw : SFn :=
    sSeq (sSet 2 (eBin dAdd (eBin dSub (eVar 0) (eD (.p (.str "draws")))) (eD (.p (.int 1)))))
    (sSeq (sSto (eVar 0) (eD (.p (.str "draws"))) (eVar 2))
    (sSeq (sIf (tVal (eBin (onP gGt) (eBin dSub (eVar 0) (eD (.p (.str "rest")))) (eD (.p (.int 0)))))
    (sSeq (sSet 3 (eBin (onP (ii iMod)) (eBin dSub (eVar 0) (eD (.p (.str "rest")))) (eVar 1)))
    (sSeq (sSto (eVar 0) (eD (.p (.str "rest"))) (eBin (onP (ii iDiv)) (eBin dSub (eVar 0) (eD (.p (.str "rest")))) (eVar 1)))
    (sRet (eVar 3))))
    (sNx))
    (sSeq (sSet 4 (eBin dSub (eVar 0) (eD (.p (.str "next")))))
    (sSeq (sSto (eVar 0) (eD (.p (.str "next"))) (eBin dAdd (eVar 4) (eD (.p (.int 1)))))
    (sSeq (sSet 5 (eD (.p (.int 17))))
    (sSeq (sIf (tVal (eBin (onP gNe) (eBin dSub (eVar 0) (eD (.p (.str "cells")))) (eLst (aNil))))
    (sSet 5 (eBin dSub (eBin dSub (eVar 0) (eD (.p (.str "cells")))) (eBin (onP (ii iMod)) (eVar 4) (eCallB bLen (aCons (eBin dSub (eVar 0) (eD (.p (.str "cells")))) (aNil))))))
    (sNx))
    (sSeq (sIf (tAnd (tVal (eBin (onP gGe) (eVar 5) (eBin (onP (ii iPow)) (eD (.p (.int 10))) (eD (.p (.int 18)))))) (tVal (eBin (onP gLt) (eVar 4) (eCallB bLen (aCons (eBin dSub (eVar 0) (eD (.p (.str "cells")))) (aNil))))))
    (sSeq (sSto (eVar 0) (eD (.p (.str "rest"))) (eBin (onP (ii iDiv)) (eVar 5) (eVar 1)))
    (sRet (eBin (onP (ii iMod)) (eVar 5) (eVar 1))))
    (sNx))
    (sSeq (sSet 6 (eBin (onP (ii iMod)) (eBin (onP (ii iPow)) (eBin dAdd (eBin dAdd (eBin (onP (ii iMod)) (eVar 5) (eD (.p (.int 2147483579)))) (eBin (onP (ii iMul)) (eD (.p (.int 8009))) (eVar 2))) (eD (.p (.int 13)))) (eD (.p (.int 5)))) (eD (.p (.int 2147483629)))))
    (sSeq (sSet 6 (eBin (onP (ii iMod)) (eBin (onP (ii iPow)) (eBin dAdd (eVar 6) (eBin (onP (ii iMul)) (eD (.p (.int 70001))) (eVar 2))) (eD (.p (.int 5)))) (eD (.p (.int 2147483647)))))
    (sRet (eBin (onP (ii iMod)) (eBin (onP (ii iDiv)) (eVar 6) (eD (.p (.int 128)))) (eVar 1))))))))))))
noncomputable def fs__law_draw : FS := defF 7 φ__law_draw
theorem F__law_draw {Z : Wd} (D : LF Z) : FnG Z 1 D.f__law_draw D.fd__law_draw ["_law_rng", "_law_limit"] fs__law_draw :=
  def_ok (N := ["_law_rng", "_law_limit", "_law_draws", "_law_digit", "_law_index", "_law_cell", "_law_mixed"]) (U := [0, 1, 2, 3, 4, 5, 6]) (χ := φ__law_draw) D.F__law_draw sc__law_draw fun X E g =>
    bd_cons (g_set g (by decide) rfl rfl (pd_bin (binG_ok g.toGd.ok rfl) (pd_sub g.toGd.ok (g_var g.toGd rfl rfl rfl rfl) (pd_str (by decide)) rfl) (pd_int)) (fun _ => rfl))
    (bd_cons (sd_sto g.toGd.ok (g_var g.toGd rfl rfl rfl rfl) (pd_str (by decide)) (g_var g.toGd rfl rfl rfl rfl) rfl rfl (fun _ => rfl) rfl)
    (bd_cons (sd_if (td_cmp (cmpG_ok g.toGd.ok .Gt) (pd_sub g.toGd.ok (g_var g.toGd rfl rfl rfl rfl) (pd_str (by decide)) rfl) (pd_int) rfl)
    (bd_cons (g_set g (by decide) rfl rfl (pd_bin (binG_ok g.toGd.ok rfl) (pd_sub g.toGd.ok (g_var g.toGd rfl rfl rfl rfl) (pd_str (by decide)) rfl) (g_var g.toGd rfl rfl rfl rfl)) (fun _ => rfl))
    (bd_cons (sd_sto g.toGd.ok (g_var g.toGd rfl rfl rfl rfl) (pd_str (by decide)) (pd_bin (binG_ok g.toGd.ok rfl) (pd_sub g.toGd.ok (g_var g.toGd rfl rfl rfl rfl) (pd_str (by decide)) rfl) (g_var g.toGd rfl rfl rfl rfl)) rfl rfl (fun _ => rfl) rfl)
    (bd_one (sd_ret (g_var g.toGd rfl rfl rfl rfl)))))
    (bd_nil))
    (bd_cons (g_set g (by decide) rfl rfl (pd_sub g.toGd.ok (g_var g.toGd rfl rfl rfl rfl) (pd_str (by decide)) rfl) (fun _ => rfl))
    (bd_cons (sd_sto g.toGd.ok (g_var g.toGd rfl rfl rfl rfl) (pd_str (by decide)) (pd_bin (binG_ok g.toGd.ok rfl) (g_var g.toGd rfl rfl rfl rfl) (pd_int)) rfl rfl (fun _ => rfl) rfl)
    (bd_cons (g_set g (by decide) rfl rfl (pd_int) (fun _ => rfl))
    (bd_cons (sd_if (td_cmp (cmpG_ok g.toGd.ok .NotEq) (pd_sub g.toGd.ok (g_var g.toGd rfl rfl rfl rfl) (pd_str (by decide)) rfl) (pd_lst (ad_nil)) rfl)
    (bd_one (g_set g (by decide) rfl rfl (pd_sub g.toGd.ok (pd_sub g.toGd.ok (g_var g.toGd rfl rfl rfl rfl) (pd_str (by decide)) rfl) (pd_bin (binG_ok g.toGd.ok rfl) (g_var g.toGd rfl rfl rfl rfl) (b_len g.toGd D.z_len rfl (ad_cons rfl (pd_sub g.toGd.ok (g_var g.toGd rfl rfl rfl rfl) (pd_str (by decide)) rfl) (ad_nil)) rfl)) rfl) (fun _ => rfl)))
    (bd_nil))
    (bd_cons (sd_if (td_bool (wd_and (td_cmp (cmpG_ok g.toGd.ok .GtE) (g_var g.toGd rfl rfl rfl rfl) (pd_bin (binG_ok g.toGd.ok rfl) (pd_int) (pd_int)) rfl) (wd_and1 (td_cmp (cmpG_ok g.toGd.ok .Lt) (g_var g.toGd rfl rfl rfl rfl) (b_len g.toGd D.z_len rfl (ad_cons rfl (pd_sub g.toGd.ok (g_var g.toGd rfl rfl rfl rfl) (pd_str (by decide)) rfl) (ad_nil)) rfl) rfl))))
    (bd_cons (sd_sto g.toGd.ok (g_var g.toGd rfl rfl rfl rfl) (pd_str (by decide)) (pd_bin (binG_ok g.toGd.ok rfl) (g_var g.toGd rfl rfl rfl rfl) (g_var g.toGd rfl rfl rfl rfl)) rfl rfl (fun _ => rfl) rfl)
    (bd_one (sd_ret (pd_bin (binG_ok g.toGd.ok rfl) (g_var g.toGd rfl rfl rfl rfl) (g_var g.toGd rfl rfl rfl rfl)))))
    (bd_nil))
    (bd_cons (g_set g (by decide) rfl rfl (pd_bin (binG_ok g.toGd.ok rfl) (pd_bin (binG_ok g.toGd.ok rfl) (pd_bin (binG_ok g.toGd.ok rfl) (pd_bin (binG_ok g.toGd.ok rfl) (pd_bin (binG_ok g.toGd.ok rfl) (g_var g.toGd rfl rfl rfl rfl) (pd_int)) (pd_bin (binG_ok g.toGd.ok rfl) (pd_int) (g_var g.toGd rfl rfl rfl rfl))) (pd_int)) (pd_int)) (pd_int)) (fun _ => rfl))
    (bd_cons (g_set g (by decide) rfl rfl (pd_bin (binG_ok g.toGd.ok rfl) (pd_bin (binG_ok g.toGd.ok rfl) (pd_bin (binG_ok g.toGd.ok rfl) (g_var g.toGd rfl rfl rfl rfl) (pd_bin (binG_ok g.toGd.ok rfl) (pd_int) (g_var g.toGd rfl rfl rfl rfl))) (pd_int)) (pd_int)) (fun _ => rfl))
    (bd_one (sd_ret (pd_bin (binG_ok g.toGd.ok rfl) (pd_bin (binG_ok g.toGd.ok rfl) (g_var g.toGd rfl rfl rfl rfl) (pd_int)) (g_var g.toGd rfl rfl rfl rfl)))))))))))))
theorem B0 {Z : Wd} (D : LF Z) : BindsG Z.K D.fd__law_draw ["_law_rng", "_law_limit"] 2 [] [.at 0, .at 1] := binds_pos D.F__law_draw rfl (fun us hl => match us, hl with | [a0, a1], _ => rfl) (by simp) fun _ _ _ _ _ _ us hl => match us, hl with | [a0, a1], _ => rfl
theorem sc__law_sample : FnScope ["_law_rng", "_law_pool", "_law_amount", "_law_rest", "_law_k"] ["_law_rng", "_law_pool", "_law_amount"] (defScope s__law_sample) := ⟨rfl, rfl, rfl, by decide +kernel, rfl, by decide +kernel, by decide +kernel⟩
noncomputable def φ__law_sample : SFn :=
    sSeq (sSet 3 (eAl (eCallB bList (aCons (eVar 1) (aNil)))))
    (sRet (eLc (iRg rg1 (aCons (eVar 2) (aNil))) (gNm 4) (tTrue) (eMth gmPop (eVar 3) (aCons (eCallU fs__law_draw 2 0 [.at 0, .at 1] (aCons (eVar 0) (aCons (eCallB bLen (aCons (eVar 3) (aNil))) (aNil))) aNil) (aNil))) [4]))
noncomputable def fs__law_sample : FS := defF 5 φ__law_sample
theorem F__law_sample {Z : Wd} (D : LF Z) : FnG Z 2 D.f__law_sample D.fd__law_sample ["_law_rng", "_law_pool", "_law_amount"] fs__law_sample :=
  def_ok (N := ["_law_rng", "_law_pool", "_law_amount", "_law_rest", "_law_k"]) (U := [0, 1, 2, 3, 4]) (χ := φ__law_sample) D.F__law_sample sc__law_sample fun X E g =>
    bd_cons (g_set g (by decide) rfl rfl (pd_al (b_list g.toGd D.z_list rfl (ad_cons rfl (g_var g.toGd rfl rfl rfl rfl) (ad_nil)) rfl)) (fun _ => rfl))
    (bd_one (sd_ret (g_lc (own := [("_law_k", 4)]) g.toGd (id_range1 (gl_of g.toGd rfl) (no_of g.toGd D.z_range) rfl  (ad_cons rfl (g_var g.toGd rfl rfl rfl rfl) (ad_nil))) (by decide +kernel) (fun X1 g1 => g_nmB g1 (by decide) rfl rfl) (fun X1 g1 => if_nil) (fun X1 g1 => m_pop (g_var g1.toGd rfl rfl rfl rfl) (ad_cons rfl (pd_callU g1.toGd ((F__law_draw D).mono (by decide)) (B0 D) (gl_of g1.toGd rfl) D.F__law_draw.mg D.F__law_draw.fn.kp rfl (ad_cons rfl (g_var g1.toGd rfl rfl rfl rfl) (ad_cons rfl (b_len g1.toGd D.z_len rfl (ad_cons rfl (g_var g1.toGd rfl rfl rfl rfl) (ad_nil)) rfl) (ad_nil))) rfl) (ad_nil)) rfl rfl rfl) (fun _ => rfl))))
theorem B1 {Z : Wd} (D : LF Z) : BindsG Z.K D.fd__law_sample ["_law_rng", "_law_pool", "_law_amount"] 3 [] [.at 0, .at 1, .at 2] := binds_pos D.F__law_sample rfl (fun us hl => match us, hl with | [a0, a1, a2], _ => rfl) (by simp) fun _ _ _ _ _ _ us hl => match us, hl with | [a0, a1, a2], _ => rfl
theorem sc__law_is_within : FnScope ["_law_some", "_law_more", "_law_name"] ["_law_some", "_law_more"] (defScope s__law_is_within) := ⟨rfl, rfl, rfl, by decide +kernel, rfl, by decide +kernel, by decide +kernel⟩
noncomputable def φ__law_is_within : SFn :=
    sRet (eBin (onP gEq) (eLc (iE (eVar 0)) (gNm 2) (tVal (eBin (onP gNotIn) (eVar 2) (eVar 1))) (eVar 2) [2]) (eLst (aNil)))
noncomputable def fs__law_is_within : FS := defF 3 φ__law_is_within
theorem F__law_is_within {Z : Wd} (D : LF Z) : FnG Z 1 D.f__law_is_within D.fd__law_is_within ["_law_some", "_law_more"] fs__law_is_within :=
  def_ok (N := ["_law_some", "_law_more", "_law_name"]) (U := [0, 1, 2]) (χ := φ__law_is_within) D.F__law_is_within sc__law_is_within fun X E g =>
    bd_one (sd_ret (pd_cmp (cmpG_ok g.toGd.ok .Eq) (g_lc (own := [("_law_name", 2)]) g.toGd (id_val (g_var g.toGd rfl rfl rfl rfl)) (by decide +kernel) (fun X1 g1 => g_nmB g1 (by decide) rfl rfl) (fun X1 g1 => if_one (td_cmp (cmpG_ok g1.toGd.ok .NotIn) (g_var g1.toGd rfl rfl rfl rfl) (g_var g1.toGd rfl rfl rfl rfl) rfl)) (fun X1 g1 => g_var g1.toGd rfl rfl rfl rfl) (fun _ => rfl)) (pd_lst (ad_nil)) rfl))
theorem B2 {Z : Wd} (D : LF Z) : BindsG Z.K D.fd__law_is_within ["_law_some", "_law_more"] 2 [] [.at 0, .at 1] := binds_pos D.F__law_is_within rfl (fun us hl => match us, hl with | [a0, a1], _ => rfl) (by simp) fun _ _ _ _ _ _ us hl => match us, hl with | [a0, a1], _ => rfl
theorem sc__law_make_teams : FnScope ["_law_rng", "_law_most", "_law_folk", "_law_found", "_law_amount", "_law_turn", "_law_extra", "_law_some", "_law_rivals", "_law_team"] ["_law_rng", "_law_most"] (defScope s__law_make_teams) := ⟨rfl, rfl, rfl, by decide +kernel, rfl, by decide +kernel, by decide +kernel⟩
noncomputable def φ__law_make_teams : SFn :=
    sSeq (sSet 2 (eCallU fs__law_sample 3 0 [.at 0, .at 1, .at 2] (aCons (eVar 0) (aCons (eLst (aCons (eD (.p (.str "a"))) (aCons (eD (.p (.str "b"))) (aCons (eD (.p (.str "c"))) (aCons (eD (.p (.str "d"))) (aCons (eD (.p (.str "ed"))) (aCons (eD (.p (.str "zzzzzzzz"))) (aNil)))))))) (aCons (eBin dAdd (eD (.p (.int 3))) (eCallU fs__law_draw 2 0 [.at 0, .at 1] (aCons (eVar 0) (aCons (eBin (onP (ii iSub)) (eVar 1) (eD (.p (.int 2)))) (aNil))) aNil)) (aNil)))) aNil))
    (sSeq (sPar 3 4 (aCons (eAl (eLst (aNil))) (aCons (eBin dSub (eLst (aCons (eD (.p (.int 2))) (aCons (eD (.p (.int 2))) (aCons (eD (.p (.int 2))) (aCons (eD (.p (.int 1))) (aCons (eD (.p (.int 3))) (aNil))))))) (eCallU fs__law_draw 2 0 [.at 0, .at 1] (aCons (eVar 0) (aCons (eD (.p (.int 5))) (aNil))) aNil)) (aNil))))
    (sSeq (sFor (iRg rg1 (aCons (eBin dAdd (eD (.p (.int 4))) (eCallU fs__law_draw 2 0 [.at 0, .at 1] (aCons (eVar 0) (aCons (eD (.p (.int 6))) (aNil))) aNil)) (aNil))) (gNm 5)
    (sSeq (sSet 6 (eBin dSub (eLst (aCons (eD (.p (.int 0))) (aCons (eD (.p (.int 0))) (aCons (eD (.p (.int 0))) (aCons (eD (.p (.int 1))) (aCons (eUn dNeg (eD (.p (.int 1)))) (aNil))))))) (eCallU fs__law_draw 2 0 [.at 0, .at 1] (aCons (eVar 0) (aCons (eD (.p (.int 5))) (aNil))) aNil)))
    (sSeq (sSet 7 (eCallB bTuple (aCons (eCallB bSrt (aCons (eCallU fs__law_sample 3 0 [.at 0, .at 1, .at 2] (aCons (eVar 0) (aCons (eVar 2) (aCons (eCallB bMax (aCons (eD (.p (.int 1))) (aCons (eCallB bMin (aCons (eCallB bLen (aCons (eVar 2) (aNil))) (aCons (eBin dAdd (eVar 4) (eVar 6)) (aNil)))) (aNil)))) (aNil)))) aNil) (aNil))) (aNil))))
    (sSeq (sSet 8 (eLc (iE (eVar 3)) (gNm 9) (tOr (tVal (eCallU fs__law_is_within 2 0 [.at 0, .at 1] (aCons (eVar 9) (aCons (eVar 7) (aNil))) aNil)) (tVal (eCallU fs__law_is_within 2 0 [.at 0, .at 1] (aCons (eVar 7) (aCons (eVar 9) (aNil))) aNil))) (eVar 9) [9]))
    (sIf (tVal (eBin (onP gEq) (eVar 8) (eLst (aNil))))
    (sDrop (eMth gmAppend (eVar 3) (aCons (eVar 7) (aNil))))
    (sNx)))))
    (sNx))
    (sRet (eCallB bTuple (aCons (eCallB bSrt (aCons (eVar 3) (aNil))) (aNil))))))
noncomputable def fs__law_make_teams : FS := defF 10 φ__law_make_teams
theorem F__law_make_teams {Z : Wd} (D : LF Z) : FnG Z 3 D.f__law_make_teams D.fd__law_make_teams ["_law_rng", "_law_most"] fs__law_make_teams :=
  def_ok (N := ["_law_rng", "_law_most", "_law_folk", "_law_found", "_law_amount", "_law_turn", "_law_extra", "_law_some", "_law_rivals", "_law_team"]) (U := [0, 1, 2, 3, 4, 5, 6, 7, 8, 9]) (χ := φ__law_make_teams) D.F__law_make_teams sc__law_make_teams fun X E g =>
    bd_cons (g_set g (by decide) rfl rfl (pd_callU g.toGd ((F__law_sample D).mono (by decide)) (B1 D) (gl_of g.toGd rfl) D.F__law_sample.mg D.F__law_sample.fn.kp rfl (ad_cons rfl (g_var g.toGd rfl rfl rfl rfl) (ad_cons rfl (pd_lst (ad_cons rfl (pd_str (by decide)) (ad_cons rfl (pd_str (by decide)) (ad_cons rfl (pd_str (by decide)) (ad_cons rfl (pd_str (by decide)) (ad_cons rfl (pd_str (by decide)) (ad_cons rfl (pd_str (by decide)) (ad_nil)))))))) (ad_cons rfl (pd_bin (binG_ok g.toGd.ok rfl) (pd_int) (pd_callU g.toGd ((F__law_draw D).mono (by decide)) (B0 D) (gl_of g.toGd rfl) D.F__law_draw.mg D.F__law_draw.fn.kp rfl (ad_cons rfl (g_var g.toGd rfl rfl rfl rfl) (ad_cons rfl (pd_bin (binG_ok g.toGd.ok rfl) (g_var g.toGd rfl rfl rfl rfl) (pd_int)) (ad_nil))) rfl)) (ad_nil)))) rfl) (fun _ => rfl))
    (bd_cons (g_par g (by decide) (by decide) rfl rfl (by decide) rfl rfl (ad_cons rfl (pd_al (pd_lst (ad_nil))) (ad_cons rfl (pd_sub g.toGd.ok (pd_lst (ad_cons rfl (pd_int) (ad_cons rfl (pd_int) (ad_cons rfl (pd_int) (ad_cons rfl (pd_int) (ad_cons rfl (pd_int) (ad_nil))))))) (pd_callU g.toGd ((F__law_draw D).mono (by decide)) (B0 D) (gl_of g.toGd rfl) D.F__law_draw.mg D.F__law_draw.fn.kp rfl (ad_cons rfl (g_var g.toGd rfl rfl rfl rfl) (ad_cons rfl (pd_int) (ad_nil))) rfl) rfl) (ad_nil))) (sw2 (by decide) rfl rfl rfl rfl rfl))
    (bd_cons (g_for g (id_range1 (gl_of g.toGd rfl) (no_of g.toGd D.z_range) rfl  (ad_cons rfl (pd_bin (binG_ok g.toGd.ok rfl) (pd_int) (pd_callU g.toGd ((F__law_draw D).mono (by decide)) (B0 D) (gl_of g.toGd rfl) D.F__law_draw.mg D.F__law_draw.fn.kp rfl (ad_cons rfl (g_var g.toGd rfl rfl rfl rfl) (ad_cons rfl (pd_int) (ad_nil))) rfl)) (ad_nil))) (g_nm g (by decide) rfl rfl)
    (bd_cons (g_set g (by decide) rfl rfl (pd_sub g.toGd.ok (pd_lst (ad_cons rfl (pd_int) (ad_cons rfl (pd_int) (ad_cons rfl (pd_int) (ad_cons rfl (pd_int) (ad_cons rfl (pd_un (unG_ok rfl) (pd_int)) (ad_nil))))))) (pd_callU g.toGd ((F__law_draw D).mono (by decide)) (B0 D) (gl_of g.toGd rfl) D.F__law_draw.mg D.F__law_draw.fn.kp rfl (ad_cons rfl (g_var g.toGd rfl rfl rfl rfl) (ad_cons rfl (pd_int) (ad_nil))) rfl) rfl) (fun _ => rfl))
    (bd_cons (g_set g (by decide) rfl rfl (b_tuple g.toGd D.z_tuple rfl (ad_cons rfl (b_sorted g.toGd D.z_sorted rfl (ad_cons rfl (pd_callU g.toGd ((F__law_sample D).mono (by decide)) (B1 D) (gl_of g.toGd rfl) D.F__law_sample.mg D.F__law_sample.fn.kp rfl (ad_cons rfl (g_var g.toGd rfl rfl rfl rfl) (ad_cons rfl (g_var g.toGd rfl rfl rfl rfl) (ad_cons rfl (b_max g.toGd D.z_max rfl (ad_cons rfl (pd_int) (ad_cons rfl (b_min g.toGd D.z_min rfl (ad_cons rfl (b_len g.toGd D.z_len rfl (ad_cons rfl (g_var g.toGd rfl rfl rfl rfl) (ad_nil)) rfl) (ad_cons rfl (pd_bin (binG_ok g.toGd.ok rfl) (g_var g.toGd rfl rfl rfl rfl) (g_var g.toGd rfl rfl rfl rfl)) (ad_nil))) rfl) (ad_nil))) rfl) (ad_nil)))) rfl) (ad_nil)) rfl) (ad_nil)) rfl) (fun _ => rfl))
    (bd_cons (g_setLc (own := [("_law_team", 9)]) g (by decide) (.inl rfl) rfl rfl (id_val (g_var g.toGd rfl rfl rfl rfl)) (by decide +kernel) (fun X1 g1 => g_nmB g1 (by decide) rfl rfl) (fun X1 g1 => if_one (td_bool (wd_or (td_val (pd_callU g1.toGd ((F__law_is_within D).mono (by decide)) (B2 D) (gl_of g1.toGd rfl) D.F__law_is_within.mg D.F__law_is_within.fn.kp rfl (ad_cons rfl (g_var g1.toGd rfl rfl rfl rfl) (ad_cons rfl (g_var g1.toGd rfl rfl rfl rfl) (ad_nil))) rfl) (fun _ => rfl)) (wd_or1 (td_val (pd_callU g1.toGd ((F__law_is_within D).mono (by decide)) (B2 D) (gl_of g1.toGd rfl) D.F__law_is_within.mg D.F__law_is_within.fn.kp rfl (ad_cons rfl (g_var g1.toGd rfl rfl rfl rfl) (ad_cons rfl (g_var g1.toGd rfl rfl rfl rfl) (ad_nil))) rfl) (fun _ => rfl)))))) (fun X1 g1 => g_var g1.toGd rfl rfl rfl rfl) (fun _ => rfl))
    (bd_one (sd_if (td_cmp (cmpG_ok g.toGd.ok .Eq) (g_var g.toGd rfl rfl rfl rfl) (pd_lst (ad_nil)) rfl)
    (bd_one (sd_expr (m_append (g_var g.toGd rfl rfl rfl rfl) (ad_cons rfl (g_var g.toGd rfl rfl rfl rfl) (ad_nil)) rfl rfl rfl) rfl))
    (bd_nil))))))
    (bd_nil) (fun _ => rfl))
    (bd_one (sd_ret (b_tuple g.toGd D.z_tuple rfl (ad_cons rfl (b_sorted g.toGd D.z_sorted rfl (ad_cons rfl (g_var g.toGd rfl rfl rfl rfl) (ad_nil)) rfl) (ad_nil)) rfl)))))
theorem B5 {Z : Wd} (D : LF Z) : BindsG Z.K D.fd__law_make_teams ["_law_rng", "_law_most"] 2 [] [.at 0, .at 1] := binds_pos D.F__law_make_teams rfl (fun us hl => match us, hl with | [a0, a1], _ => rfl) (by simp) fun _ _ _ _ _ _ us hl => match us, hl with | [a0, a1], _ => rfl
theorem sc__law_all_sets : FnScope ["_law_names_now", "_law_found", "_law_name", "_law_some"] ["_law_names_now"] (defScope s__law_all_sets) := ⟨rfl, rfl, rfl, by decide +kernel, rfl, by decide +kernel, by decide +kernel⟩
noncomputable def φ__law_all_sets : SFn :=
    sSeq (sSet 1 (eLst (aCons (eTup (aNil)) (aNil))))
    (sSeq (sFor (iE (eCallB bSrt (aCons (eVar 0) (aNil)))) (gNm 2)
    (sSet 1 (eBin dAdd (eVar 1) (eLc (iE (eVar 1)) (gNm 3) (tTrue) (eBin dAdd (eVar 3) (eTup (aCons (eVar 2) (aNil)))) [3])))
    (sNx))
    (sRet (eSrtLen (eVar 1))))
noncomputable def fs__law_all_sets : FS := defF 4 φ__law_all_sets
theorem F__law_all_sets {Z : Wd} (D : LF Z) : FnG Z 1 D.f__law_all_sets D.fd__law_all_sets ["_law_names_now"] fs__law_all_sets :=
  def_ok (N := ["_law_names_now", "_law_found", "_law_name", "_law_some"]) (U := [0, 1, 2, 3]) (χ := φ__law_all_sets) D.F__law_all_sets sc__law_all_sets fun X E g =>
    bd_cons (g_set g (by decide) rfl rfl (pd_lst (ad_cons rfl (pd_tup (ad_nil)) (ad_nil))) (fun _ => rfl))
    (bd_cons (g_for g (id_val (b_sorted g.toGd D.z_sorted rfl (ad_cons rfl (g_var g.toGd rfl rfl rfl rfl) (ad_nil)) rfl)) (g_nm g (by decide) rfl rfl)
    (bd_one (g_set g (by decide) rfl rfl (pd_bin (binG_ok g.toGd.ok rfl) (g_var g.toGd rfl rfl rfl rfl) (g_lc (own := [("_law_some", 3)]) g.toGd (id_val (g_var g.toGd rfl rfl rfl rfl)) (by decide +kernel) (fun X1 g1 => g_nmB g1 (by decide) rfl rfl) (fun X1 g1 => if_nil) (fun X1 g1 => pd_bin (binG_ok g1.toGd.ok rfl) (g_var g1.toGd rfl rfl rfl rfl) (pd_tup (ad_cons rfl (g_var g1.toGd rfl rfl rfl rfl) (ad_nil)))) (fun _ => rfl))) (fun _ => rfl)))
    (bd_nil) (fun _ => rfl))
    (bd_one (sd_ret (b_srtLen g.toGd D.z_sorted rfl D.z_len rfl (g_var g.toGd rfl rfl rfl rfl) rfl))))
theorem B3 {Z : Wd} (D : LF Z) : BindsG Z.K D.fd__law_all_sets ["_law_names_now"] 1 [] [.at 0] := binds_pos D.F__law_all_sets rfl (fun us hl => match us, hl with | [a0], _ => rfl) (by simp) fun _ _ _ _ _ _ us hl => match us, hl with | [a0], _ => rfl
theorem sc__law_make_good : FnScope ["_law_rng", "_law_most", "_law_rest", "_law_found", "_law_group", "_law_k", "_law_amount", "_law_some", "_law_part", "_law_longer", "_law_team"] ["_law_rng", "_law_most"] (defScope s__law_make_good) := ⟨rfl, rfl, rfl, by decide +kernel, rfl, by decide +kernel, by decide +kernel⟩
noncomputable def φ__law_make_good : SFn :=
    sSeq (sPar 2 3 (aCons (eAl (eCallU fs__law_sample 3 0 [.at 0, .at 1, .at 2] (aCons (eVar 0) (aCons (eLst (aCons (eD (.p (.str "a"))) (aCons (eD (.p (.str "b"))) (aCons (eD (.p (.str "c"))) (aCons (eD (.p (.str "d"))) (aCons (eD (.p (.str "ed"))) (aCons (eD (.p (.str "zzzzzzzz"))) (aNil)))))))) (aCons (eVar 1) (aNil)))) aNil)) (aCons (eLst (aCons (eTup (aNil)) (aNil))) (aNil))))
    (sSeq (sWh (tVal (eBin (onP gNe) (eVar 2) (eLst (aNil))))
    (sSeq (sSet 4 (eCallB bSrt (aCons (eLc (iRg rg1 (aCons (eCallB bMin (aCons (eCallB bLen (aCons (eVar 2) (aNil))) (aCons (eBin dAdd (eD (.p (.int 1))) (eCallU fs__law_draw 2 0 [.at 0, .at 1] (aCons (eVar 0) (aCons (eD (.p (.int 3))) (aNil))) aNil)) (aNil)))) (aNil))) (gNm 5) (tTrue) (eMth gmPop (eVar 2) aNil) [5]) (aNil))))
    (sSeq (sSet 6 (eBin dAdd (eD (.p (.int 1))) (eCallU fs__law_draw 2 0 [.at 0, .at 1] (aCons (eVar 0) (aCons (eCallB bLen (aCons (eVar 4) (aNil))) (aNil))) aNil)))
    (sSeq (sSet 7 (eLc (iE (eCallU fs__law_all_sets 1 0 [.at 0] (aCons (eVar 4) (aNil)) aNil)) (gNm 8) (tVal (eBin (onP gEq) (eCallB bLen (aCons (eVar 8) (aNil))) (eVar 6))) (eVar 8) [8]))
    (sSeq (sSet 9 (eAl (eLst (aNil))))
    (sSeq (sFor (iE (eVar 3)) (gNm 10)
    (sDrop (eMth gmExtend (eVar 9) (aCons (eLc (iE (eVar 7)) (gNm 8) (tTrue) (eCallB bTuple (aCons (eCallB bSrt (aCons (eBin dAdd (eVar 10) (eVar 8)) (aNil))) (aNil))) [8]) (aNil))))
    (sNx))
    (sSet 3 (eVar 9)))))))
    (sNx))
    (sRet (eCallB bTuple (aCons (eCallB bSrt (aCons (eVar 3) (aNil))) (aNil)))))
noncomputable def fs__law_make_good : FS := defF 11 φ__law_make_good
theorem F__law_make_good {Z : Wd} (D : LF Z) : FnG Z 3 D.f__law_make_good D.fd__law_make_good ["_law_rng", "_law_most"] fs__law_make_good :=
  def_ok (N := ["_law_rng", "_law_most", "_law_rest", "_law_found", "_law_group", "_law_k", "_law_amount", "_law_some", "_law_part", "_law_longer", "_law_team"]) (U := [0, 1, 2, 3, 4, 5, 6, 7, 8, 9, 10]) (χ := φ__law_make_good) D.F__law_make_good sc__law_make_good fun X E g =>
    bd_cons (g_parN g (by decide) (by decide) rfl rfl rfl rfl rfl (ad_cons rfl (pd_al (pd_callU g.toGd ((F__law_sample D).mono (by decide)) (B1 D) (gl_of g.toGd rfl) D.F__law_sample.mg D.F__law_sample.fn.kp rfl (ad_cons rfl (g_var g.toGd rfl rfl rfl rfl) (ad_cons rfl (pd_lst (ad_cons rfl (pd_str (by decide)) (ad_cons rfl (pd_str (by decide)) (ad_cons rfl (pd_str (by decide)) (ad_cons rfl (pd_str (by decide)) (ad_cons rfl (pd_str (by decide)) (ad_cons rfl (pd_str (by decide)) (ad_nil)))))))) (ad_cons rfl (g_var g.toGd rfl rfl rfl rfl) (ad_nil)))) rfl)) (ad_cons rfl (pd_lst (ad_cons rfl (pd_tup (ad_nil)) (ad_nil))) (ad_nil))))
    (bd_cons (g_while g (td_cmp (cmpG_ok g.toGd.ok .NotEq) (g_var g.toGd rfl rfl rfl rfl) (pd_lst (ad_nil)) rfl)
    (bd_cons (g_set g (by decide) rfl rfl (b_sorted g.toGd D.z_sorted rfl (ad_cons rfl (g_lc (own := [("_law_k", 5)]) g.toGd (id_range1 (gl_of g.toGd rfl) (no_of g.toGd D.z_range) rfl  (ad_cons rfl (b_min g.toGd D.z_min rfl (ad_cons rfl (b_len g.toGd D.z_len rfl (ad_cons rfl (g_var g.toGd rfl rfl rfl rfl) (ad_nil)) rfl) (ad_cons rfl (pd_bin (binG_ok g.toGd.ok rfl) (pd_int) (pd_callU g.toGd ((F__law_draw D).mono (by decide)) (B0 D) (gl_of g.toGd rfl) D.F__law_draw.mg D.F__law_draw.fn.kp rfl (ad_cons rfl (g_var g.toGd rfl rfl rfl rfl) (ad_cons rfl (pd_int) (ad_nil))) rfl)) (ad_nil))) rfl) (ad_nil))) (by decide +kernel) (fun X1 g1 => g_nmB g1 (by decide) rfl rfl) (fun X1 g1 => if_nil) (fun X1 g1 => m_pop0 (g_var g1.toGd rfl rfl rfl rfl) rfl rfl) (fun _ => rfl)) (ad_nil)) rfl) (fun _ => rfl))
    (bd_cons (g_set g (by decide) rfl rfl (pd_bin (binG_ok g.toGd.ok rfl) (pd_int) (pd_callU g.toGd ((F__law_draw D).mono (by decide)) (B0 D) (gl_of g.toGd rfl) D.F__law_draw.mg D.F__law_draw.fn.kp rfl (ad_cons rfl (g_var g.toGd rfl rfl rfl rfl) (ad_cons rfl (b_len g.toGd D.z_len rfl (ad_cons rfl (g_var g.toGd rfl rfl rfl rfl) (ad_nil)) rfl) (ad_nil))) rfl)) (fun _ => rfl))
    (bd_cons (g_setLc (own := [("_law_part", 8)]) g (by decide) (.inl rfl) rfl rfl (id_val (pd_callU g.toGd ((F__law_all_sets D).mono (by decide)) (B3 D) (gl_of g.toGd rfl) D.F__law_all_sets.mg D.F__law_all_sets.fn.kp rfl (ad_cons rfl (g_var g.toGd rfl rfl rfl rfl) (ad_nil)) rfl)) (by decide +kernel) (fun X1 g1 => g_nmB g1 (by decide) rfl rfl) (fun X1 g1 => if_one (td_cmp (cmpG_ok g1.toGd.ok .Eq) (b_len g1.toGd D.z_len rfl (ad_cons rfl (g_var g1.toGd rfl rfl rfl rfl) (ad_nil)) rfl) (g_var g1.toGd rfl rfl rfl rfl) rfl)) (fun X1 g1 => g_var g1.toGd rfl rfl rfl rfl) (fun _ => rfl))
    (bd_cons (g_set g (by decide) rfl rfl (pd_al (pd_lst (ad_nil))) (fun _ => rfl))
    (bd_cons (g_for g (id_val (g_var g.toGd rfl rfl rfl rfl)) (g_nm g (by decide) rfl rfl)
    (bd_one (sd_expr (m_extend (g_var g.toGd rfl rfl rfl rfl) (ad_cons rfl (g_lc (own := [("_law_part", 8)]) g.toGd (id_val (g_var g.toGd rfl rfl rfl rfl)) (by decide +kernel) (fun X1 g1 => g_nmB g1 (by decide) rfl rfl) (fun X1 g1 => if_nil) (fun X1 g1 => b_tuple g1.toGd D.z_tuple rfl (ad_cons rfl (b_sorted g1.toGd D.z_sorted rfl (ad_cons rfl (pd_bin (binG_ok g1.toGd.ok rfl) (g_var g1.toGd rfl rfl rfl rfl) (g_var g1.toGd rfl rfl rfl rfl)) (ad_nil)) rfl) (ad_nil)) rfl) (fun _ => rfl)) (ad_nil)) rfl rfl rfl) rfl))
    (bd_nil) (fun _ => rfl))
    (bd_one (g_set g (by decide) rfl rfl (g_var g.toGd rfl rfl rfl rfl) (fun _ => rfl))))))))
    (bd_nil))
    (bd_one (sd_ret (b_tuple g.toGd D.z_tuple rfl (ad_cons rfl (b_sorted g.toGd D.z_sorted rfl (ad_cons rfl (g_var g.toGd rfl rfl rfl rfl) (ad_nil)) rfl) (ad_nil)) rfl))))
theorem B4 {Z : Wd} (D : LF Z) : BindsG Z.K D.fd__law_make_good ["_law_rng", "_law_most"] 2 [] [.at 0, .at 1] := binds_pos D.F__law_make_good rfl (fun us hl => match us, hl with | [a0, a1], _ => rfl) (by simp) fun _ _ _ _ _ _ us hl => match us, hl with | [a0, a1], _ => rfl
theorem sc__law_make_any : FnScope ["_law_rng", "_law_most"] ["_law_rng", "_law_most"] (defScope s__law_make_any) := ⟨rfl, rfl, rfl, by decide +kernel, rfl, by decide +kernel, by decide +kernel⟩
noncomputable def φ__law_make_any : SFn :=
    sSeq (sIf (tVal (eBin (onP gEq) (eCallU fs__law_draw 2 0 [.at 0, .at 1] (aCons (eVar 0) (aCons (eD (.p (.int 3))) (aNil))) aNil) (eD (.p (.int 0)))))
    (sRet (eCallU fs__law_make_good 2 0 [.at 0, .at 1] (aCons (eVar 0) (aCons (eBin dAdd (eD (.p (.int 2))) (eCallU fs__law_draw 2 0 [.at 0, .at 1] (aCons (eVar 0) (aCons (eBin (onP (ii iSub)) (eVar 1) (eD (.p (.int 1)))) (aNil))) aNil)) (aNil))) aNil))
    (sNx))
    (sRet (eCallU fs__law_make_teams 2 0 [.at 0, .at 1] (aCons (eVar 0) (aCons (eVar 1) (aNil))) aNil))
noncomputable def fs__law_make_any : FS := defF 2 φ__law_make_any
theorem F__law_make_any {Z : Wd} (D : LF Z) : FnG Z 4 D.f__law_make_any D.fd__law_make_any ["_law_rng", "_law_most"] fs__law_make_any :=
  def_ok (N := ["_law_rng", "_law_most"]) (U := [0, 1]) (χ := φ__law_make_any) D.F__law_make_any sc__law_make_any fun X E g =>
    bd_cons (sd_if (td_cmp (cmpG_ok g.toGd.ok .Eq) (pd_callU g.toGd ((F__law_draw D).mono (by decide)) (B0 D) (gl_of g.toGd rfl) D.F__law_draw.mg D.F__law_draw.fn.kp rfl (ad_cons rfl (g_var g.toGd rfl rfl rfl rfl) (ad_cons rfl (pd_int) (ad_nil))) rfl) (pd_int) rfl)
    (bd_one (sd_ret (pd_callU g.toGd ((F__law_make_good D).mono (by decide)) (B4 D) (gl_of g.toGd rfl) D.F__law_make_good.mg D.F__law_make_good.fn.kp rfl (ad_cons rfl (g_var g.toGd rfl rfl rfl rfl) (ad_cons rfl (pd_bin (binG_ok g.toGd.ok rfl) (pd_int) (pd_callU g.toGd ((F__law_draw D).mono (by decide)) (B0 D) (gl_of g.toGd rfl) D.F__law_draw.mg D.F__law_draw.fn.kp rfl (ad_cons rfl (g_var g.toGd rfl rfl rfl rfl) (ad_cons rfl (pd_bin (binG_ok g.toGd.ok rfl) (g_var g.toGd rfl rfl rfl rfl) (pd_int)) (ad_nil))) rfl)) (ad_nil))) rfl)))
    (bd_nil))
    (bd_one (sd_ret (pd_callU g.toGd ((F__law_make_teams D).mono (by decide)) (B5 D) (gl_of g.toGd rfl) D.F__law_make_teams.mg D.F__law_make_teams.fn.kp rfl (ad_cons rfl (g_var g.toGd rfl rfl rfl rfl) (ad_cons rfl (g_var g.toGd rfl rfl rfl rfl) (ad_nil))) rfl)))
theorem B12 {Z : Wd} (D : LF Z) : BindsG Z.K D.fd__law_make_any ["_law_rng", "_law_most"] 2 [] [.at 0, .at 1] := binds_pos D.F__law_make_any rfl (fun us hl => match us, hl with | [a0, a1], _ => rfl) (by simp) fun _ _ _ _ _ _ us hl => match us, hl with | [a0, a1], _ => rfl
theorem sc__law_but : FnScope ["_law_here", "_law_name", "_law_one_name"] ["_law_here", "_law_name"] (defScope s__law_but) := ⟨rfl, rfl, rfl, by decide +kernel, rfl, by decide +kernel, by decide +kernel⟩
noncomputable def φ__law_but : SFn :=
    sRet (eCallB bTuple (aCons (eLc (iE (eVar 0)) (gNm 2) (tVal (eBin (onP gNe) (eVar 2) (eVar 1))) (eVar 2) [2]) (aNil)))
noncomputable def fs__law_but : FS := defF 3 φ__law_but
theorem F__law_but {Z : Wd} (D : LF Z) : FnG Z 1 D.f__law_but D.fd__law_but ["_law_here", "_law_name"] fs__law_but :=
  def_ok (N := ["_law_here", "_law_name", "_law_one_name"]) (U := [0, 1, 2]) (χ := φ__law_but) D.F__law_but sc__law_but fun X E g =>
    bd_one (sd_ret (b_tuple g.toGd D.z_tuple rfl (ad_cons rfl (g_lc (own := [("_law_one_name", 2)]) g.toGd (id_val (g_var g.toGd rfl rfl rfl rfl)) (by decide +kernel) (fun X1 g1 => g_nmB g1 (by decide) rfl rfl) (fun X1 g1 => if_one (td_cmp (cmpG_ok g1.toGd.ok .NotEq) (g_var g1.toGd rfl rfl rfl rfl) (g_var g1.toGd rfl rfl rfl rfl) rfl)) (fun X1 g1 => g_var g1.toGd rfl rfl rfl rfl) (fun _ => rfl)) (ad_nil)) rfl))
theorem B6 {Z : Wd} (D : LF Z) : BindsG Z.K D.fd__law_but ["_law_here", "_law_name"] 2 [] [.at 0, .at 1] := binds_pos D.F__law_but rfl (fun us hl => match us, hl with | [a0, a1], _ => rfl) (by simp) fun _ _ _ _ _ _ us hl => match us, hl with | [a0, a1], _ => rfl
theorem sc__law_exchanges : FnScope ["_law_teams", "_law_found", "_law_i", "_law_j", "_law_name", "_law_own", "_law_some", "_law_far"] ["_law_teams"] (defScope s__law_exchanges) := ⟨rfl, rfl, rfl, by decide +kernel, rfl, by decide +kernel, by decide +kernel⟩
noncomputable def φ__law_exchanges : SFn :=
    sSeq (sSet 1 (eAl (eLst (aNil))))
    (sSeq (sFor (iRg rg1 (aCons (eCallB bLen (aCons (eVar 0) (aNil))) (aNil))) (gNm 2)
    (sFor (iRg rg1 (aCons (eCallB bLen (aCons (eVar 0) (aNil))) (aNil))) (gNm 3)
    (sFor (iE (eLc (iE (eBin dSub (eVar 0) (eVar 2))) (gNm 5) (tVal (eBin (onP gNotIn) (eVar 5) (eBin dSub (eVar 0) (eVar 3)))) (eVar 5) [5])) (gNm 4)
    (sSeq (sSet 6 (eAl (eLst (aNil))))
    (sSeq (sFor (iE (eLc (iE (eBin dSub (eVar 0) (eVar 3))) (gNm 5) (tVal (eBin (onP gNotIn) (eVar 5) (eBin dSub (eVar 0) (eVar 2)))) (eVar 5) [5])) (gNm 7)
    (sIf (tVal (eBin (onP gIn) (eCallB bTuple (aCons (eCallB bSrt (aCons (eBin dAdd (eCallU fs__law_but 2 0 [.at 0, .at 1] (aCons (eBin dSub (eVar 0) (eVar 2)) (aCons (eVar 4) (aNil))) aNil) (eTup (aCons (eVar 7) (aNil)))) (aNil))) (aNil))) (eVar 0)))
    (sDrop (eMth gmAppend (eVar 6) (aCons (eVar 7) (aNil))))
    (sNx))
    (sNx))
    (sDrop (eMth gmAppend (eVar 1) (aCons (eTup (aCons (eVar 2) (aCons (eVar 3) (aCons (eVar 4) (aCons (eVar 6) (aNil)))))) (aNil))))))
    (sNx))
    (sNx))
    (sNx))
    (sRet (eVar 1)))
noncomputable def fs__law_exchanges : FS := defF 8 φ__law_exchanges
theorem F__law_exchanges {Z : Wd} (D : LF Z) : FnG Z 2 D.f__law_exchanges D.fd__law_exchanges ["_law_teams"] fs__law_exchanges :=
  def_ok (N := ["_law_teams", "_law_found", "_law_i", "_law_j", "_law_name", "_law_own", "_law_some", "_law_far"]) (U := [0, 1, 2, 3, 4, 5, 6, 7]) (χ := φ__law_exchanges) D.F__law_exchanges sc__law_exchanges fun X E g =>
    bd_cons (g_set g (by decide) rfl rfl (pd_al (pd_lst (ad_nil))) (fun _ => rfl))
    (bd_cons (g_for g (id_range1 (gl_of g.toGd rfl) (no_of g.toGd D.z_range) rfl  (ad_cons rfl (b_len g.toGd D.z_len rfl (ad_cons rfl (g_var g.toGd rfl rfl rfl rfl) (ad_nil)) rfl) (ad_nil))) (g_nm g (by decide) rfl rfl)
    (bd_one (g_for g (id_range1 (gl_of g.toGd rfl) (no_of g.toGd D.z_range) rfl  (ad_cons rfl (b_len g.toGd D.z_len rfl (ad_cons rfl (g_var g.toGd rfl rfl rfl rfl) (ad_nil)) rfl) (ad_nil))) (g_nm g (by decide) rfl rfl)
    (bd_one (g_for g (id_val (g_lc (own := [("_law_own", 5)]) g.toGd (id_val (pd_sub g.toGd.ok (g_var g.toGd rfl rfl rfl rfl) (g_var g.toGd rfl rfl rfl rfl) rfl)) (by decide +kernel) (fun X1 g1 => g_nmB g1 (by decide) rfl rfl) (fun X1 g1 => if_one (td_cmp (cmpG_ok g1.toGd.ok .NotIn) (g_var g1.toGd rfl rfl rfl rfl) (pd_sub g1.toGd.ok (g_var g1.toGd rfl rfl rfl rfl) (g_var g1.toGd rfl rfl rfl rfl) rfl) rfl)) (fun X1 g1 => g_var g1.toGd rfl rfl rfl rfl) (fun _ => rfl))) (g_nm g (by decide) rfl rfl)
    (bd_cons (g_set g (by decide) rfl rfl (pd_al (pd_lst (ad_nil))) (fun _ => rfl))
    (bd_cons (g_for g (id_val (g_lc (own := [("_law_own", 5)]) g.toGd (id_val (pd_sub g.toGd.ok (g_var g.toGd rfl rfl rfl rfl) (g_var g.toGd rfl rfl rfl rfl) rfl)) (by decide +kernel) (fun X1 g1 => g_nmB g1 (by decide) rfl rfl) (fun X1 g1 => if_one (td_cmp (cmpG_ok g1.toGd.ok .NotIn) (g_var g1.toGd rfl rfl rfl rfl) (pd_sub g1.toGd.ok (g_var g1.toGd rfl rfl rfl rfl) (g_var g1.toGd rfl rfl rfl rfl) rfl) rfl)) (fun X1 g1 => g_var g1.toGd rfl rfl rfl rfl) (fun _ => rfl))) (g_nm g (by decide) rfl rfl)
    (bd_one (sd_if (td_cmp (cmpG_ok g.toGd.ok .In) (b_tuple g.toGd D.z_tuple rfl (ad_cons rfl (b_sorted g.toGd D.z_sorted rfl (ad_cons rfl (pd_bin (binG_ok g.toGd.ok rfl) (pd_callU g.toGd ((F__law_but D).mono (by decide)) (B6 D) (gl_of g.toGd rfl) D.F__law_but.mg D.F__law_but.fn.kp rfl (ad_cons rfl (pd_sub g.toGd.ok (g_var g.toGd rfl rfl rfl rfl) (g_var g.toGd rfl rfl rfl rfl) rfl) (ad_cons rfl (g_var g.toGd rfl rfl rfl rfl) (ad_nil))) rfl) (pd_tup (ad_cons rfl (g_var g.toGd rfl rfl rfl rfl) (ad_nil)))) (ad_nil)) rfl) (ad_nil)) rfl) (g_var g.toGd rfl rfl rfl rfl) rfl)
    (bd_one (sd_expr (m_append (g_var g.toGd rfl rfl rfl rfl) (ad_cons rfl (g_var g.toGd rfl rfl rfl rfl) (ad_nil)) rfl rfl rfl) rfl))
    (bd_nil)))
    (bd_nil) (fun _ => rfl))
    (bd_one (sd_expr (m_append (g_var g.toGd rfl rfl rfl rfl) (ad_cons rfl (pd_tup (ad_cons rfl (g_var g.toGd rfl rfl rfl rfl) (ad_cons rfl (g_var g.toGd rfl rfl rfl rfl) (ad_cons rfl (g_var g.toGd rfl rfl rfl rfl) (ad_cons rfl (g_var g.toGd rfl rfl rfl rfl) (ad_nil)))))) (ad_nil)) rfl rfl rfl) rfl))))
    (bd_nil) (fun _ => rfl)))
    (bd_nil) (fun _ => rfl)))
    (bd_nil) (fun _ => rfl))
    (bd_one (sd_ret (g_var g.toGd rfl rfl rfl rfl))))
theorem B7 {Z : Wd} (D : LF Z) : BindsG Z.K D.fd__law_exchanges ["_law_teams"] 1 [] [.at 0] := binds_pos D.F__law_exchanges rfl (fun us hl => match us, hl with | [a0], _ => rfl) (by simp) fun _ _ _ _ _ _ us hl => match us, hl with | [a0], _ => rfl
theorem sc__law_is_good : FnScope ["_law_teams", "_law_row_now"] ["_law_teams"] (defScope s__law_is_good) := ⟨rfl, rfl, rfl, by decide +kernel, rfl, by decide +kernel, by decide +kernel⟩
noncomputable def φ__law_is_good : SFn :=
    sRet (eBin (onP gEq) (eLc (iE (eCallU fs__law_exchanges 1 0 [.at 0] (aCons (eVar 0) (aNil)) aNil)) (gNm 1) (tVal (eBin (onP gEq) (eBin dSub (eVar 1) (eD (.p (.int 3)))) (eLst (aNil)))) (eVar 1) [1]) (eLst (aNil)))
noncomputable def fs__law_is_good : FS := defF 2 φ__law_is_good
theorem F__law_is_good {Z : Wd} (D : LF Z) : FnG Z 3 D.f__law_is_good D.fd__law_is_good ["_law_teams"] fs__law_is_good :=
  def_ok (N := ["_law_teams", "_law_row_now"]) (U := [0, 1]) (χ := φ__law_is_good) D.F__law_is_good sc__law_is_good fun X E g =>
    bd_one (sd_ret (pd_cmp (cmpG_ok g.toGd.ok .Eq) (g_lc (own := [("_law_row_now", 1)]) g.toGd (id_val (pd_callU g.toGd ((F__law_exchanges D).mono (by decide)) (B7 D) (gl_of g.toGd rfl) D.F__law_exchanges.mg D.F__law_exchanges.fn.kp rfl (ad_cons rfl (g_var g.toGd rfl rfl rfl rfl) (ad_nil)) rfl)) (by decide +kernel) (fun X1 g1 => g_nmB g1 (by decide) rfl rfl) (fun X1 g1 => if_one (td_cmp (cmpG_ok g1.toGd.ok .Eq) (pd_sub g1.toGd.ok (g_var g1.toGd rfl rfl rfl rfl) (pd_int) rfl) (pd_lst (ad_nil)) rfl)) (fun X1 g1 => g_var g1.toGd rfl rfl rfl rfl) (fun _ => rfl)) (pd_lst (ad_nil)) rfl))
theorem B13 {Z : Wd} (D : LF Z) : BindsG Z.K D.fd__law_is_good ["_law_teams"] 1 [] [.at 0] := binds_pos D.F__law_is_good rfl (fun us hl => match us, hl with | [a0], _ => rfl) (by simp) fun _ _ _ _ _ _ us hl => match us, hl with | [a0], _ => rfl
theorem sc_replaced : FnScope ["crew", "person", "newcomer", "member"] ["crew", "person", "newcomer"] (defScope s_replaced) := ⟨rfl, rfl, rfl, by decide +kernel, rfl, by decide +kernel, by decide +kernel⟩
noncomputable def φ_replaced : SFn :=
    sRet (eCallB bTuple (aCons (eCallB bSrt (aCons (eLc (iE (eVar 0)) (gNm 3) (tTrue) (eIf (tVal (eBin (onP gEq) (eVar 3) (eVar 1))) (eVar 2) (eVar 3)) [3]) (aNil))) (aNil)))
noncomputable def fs_replaced : FS := defF 4 φ_replaced
theorem F_replaced {Z : Wd} (D : LF Z) : FnG Z 1 D.f_replaced D.fd_replaced ["crew", "person", "newcomer"] fs_replaced :=
  def_ok (N := ["crew", "person", "newcomer", "member"]) (U := [0, 1, 2, 3]) (χ := φ_replaced) D.F_replaced sc_replaced fun X E g =>
    bd_one (sd_ret (b_tuple g.toGd D.z_tuple rfl (ad_cons rfl (b_sorted g.toGd D.z_sorted rfl (ad_cons rfl (g_lc (own := [("member", 3)]) g.toGd (id_val (g_var g.toGd rfl rfl rfl rfl)) (by decide +kernel) (fun X1 g1 => g_nmB g1 (by decide) rfl rfl) (fun X1 g1 => if_nil) (fun X1 g1 => pd_if (td_cmp (cmpG_ok g1.toGd.ok .Eq) (g_var g1.toGd rfl rfl rfl rfl) (g_var g1.toGd rfl rfl rfl rfl) rfl) (g_var g1.toGd rfl rfl rfl rfl) (g_var g1.toGd rfl rfl rfl rfl)) (fun _ => rfl)) (ad_nil)) rfl) (ad_nil)) rfl))
theorem B8 {Z : Wd} (D : LF Z) : BindsG Z.K D.fd_replaced ["crew", "person", "newcomer"] 3 [] [.at 0, .at 1, .at 2] := binds_pos D.F_replaced rfl (fun us hl => match us, hl with | [a0, a1, a2], _ => rfl) (by simp) fun _ _ _ _ _ _ us hl => match us, hl with | [a0, a1, a2], _ => rfl
theorem sc_can_replace : FnScope ["crews", "crew", "other", "person", "own"] ["crews", "crew", "other", "person"] (defScope s_can_replace) := ⟨rfl, rfl, rfl, by decide +kernel, rfl, by decide +kernel, by decide +kernel⟩
noncomputable def φ_can_replace : SFn :=
    sRet (eCallB bAny (aCons (eLc (iE (eVar 2)) (gNm 4) (tVal (eBin (onP gNotIn) (eVar 4) (eVar 1))) (eBin (onP gIn) (eCallU fs_replaced 3 0 [.at 0, .at 1, .at 2] (aCons (eVar 1) (aCons (eVar 3) (aCons (eVar 4) (aNil)))) aNil) (eVar 0)) [4]) (aNil)))
noncomputable def fs_can_replace : FS := defF 5 φ_can_replace
theorem F_can_replace {Z : Wd} (D : LF Z) : FnG Z 2 D.f_can_replace D.fd_can_replace ["crews", "crew", "other", "person"] fs_can_replace :=
  def_ok (N := ["crews", "crew", "other", "person", "own"]) (U := [0, 1, 2, 3, 4]) (χ := φ_can_replace) D.F_can_replace sc_can_replace fun X E g =>
    bd_one (sd_ret (b_any g.toGd D.z_any rfl (ad_cons rfl (g_lc (own := [("own", 4)]) g.toGd (id_val (g_var g.toGd rfl rfl rfl rfl)) (by decide +kernel) (fun X1 g1 => g_nmB g1 (by decide) rfl rfl) (fun X1 g1 => if_one (td_cmp (cmpG_ok g1.toGd.ok .NotIn) (g_var g1.toGd rfl rfl rfl rfl) (g_var g1.toGd rfl rfl rfl rfl) rfl)) (fun X1 g1 => pd_cmp (cmpG_ok g1.toGd.ok .In) (pd_callU g1.toGd ((F_replaced D).mono (by decide)) (B8 D) (gl_of g1.toGd rfl) D.F_replaced.mg D.F_replaced.fn.kp rfl (ad_cons rfl (g_var g1.toGd rfl rfl rfl rfl) (ad_cons rfl (g_var g1.toGd rfl rfl rfl rfl) (ad_cons rfl (g_var g1.toGd rfl rfl rfl rfl) (ad_nil)))) rfl) (g_var g1.toGd rfl rfl rfl rfl) rfl) (fun _ => rfl)) (ad_nil)) rfl))
theorem B9 {Z : Wd} (D : LF Z) : BindsG Z.K D.fd_can_replace ["crews", "crew", "other", "person"] 4 [] [.at 0, .at 1, .at 2, .at 3] := binds_pos D.F_can_replace rfl (fun us hl => match us, hl with | [a0, a1, a2, a3], _ => rfl) (by simp) fun _ _ _ _ _ _ us hl => match us, hl with | [a0, a1, a2, a3], _ => rfl
theorem sc_has_exchanges : FnScope ["crews", "crew", "other", "person"] ["crews"] (defScope s_has_exchanges) := ⟨rfl, rfl, rfl, by decide +kernel, rfl, by decide +kernel, by decide +kernel⟩
noncomputable def φ_has_exchanges : SFn :=
    sSeq (sFor (iE (eVar 0)) (gNm 1)
    (sFor (iE (eVar 0)) (gNm 2)
    (sIf (tNot (tVal (eCallB bAll (aCons (eLc (iE (eVar 1)) (gNm 3) (tVal (eBin (onP gNotIn) (eVar 3) (eVar 2))) (eCallU fs_can_replace 4 0 [.at 0, .at 1, .at 2, .at 3] (aCons (eVar 0) (aCons (eVar 1) (aCons (eVar 2) (aCons (eVar 3) (aNil))))) aNil) [3]) (aNil)))))
    (sRet (eD (.p (.bool false))))
    (sNx))
    (sNx))
    (sNx))
    (sRet (eD (.p (.bool true))))
noncomputable def fs_has_exchanges : FS := defF 4 φ_has_exchanges
theorem F_has_exchanges {Z : Wd} (D : LF Z) : FnG Z 3 D.f_has_exchanges D.fd_has_exchanges ["crews"] fs_has_exchanges :=
  def_ok (N := ["crews", "crew", "other", "person"]) (U := [0, 1, 2, 3]) (χ := φ_has_exchanges) D.F_has_exchanges sc_has_exchanges fun X E g =>
    bd_cons (g_for g (id_val (g_var g.toGd rfl rfl rfl rfl)) (g_nm g (by decide) rfl rfl)
    (bd_one (g_for g (id_val (g_var g.toGd rfl rfl rfl rfl)) (g_nm g (by decide) rfl rfl)
    (bd_one (sd_if (td_not (td_val (b_all g.toGd D.z_all rfl (ad_cons rfl (g_lc (own := [("person", 3)]) g.toGd (id_val (g_var g.toGd rfl rfl rfl rfl)) (by decide +kernel) (fun X1 g1 => g_nmB g1 (by decide) rfl rfl) (fun X1 g1 => if_one (td_cmp (cmpG_ok g1.toGd.ok .NotIn) (g_var g1.toGd rfl rfl rfl rfl) (g_var g1.toGd rfl rfl rfl rfl) rfl)) (fun X1 g1 => pd_callU g1.toGd ((F_can_replace D).mono (by decide)) (B9 D) (gl_of g1.toGd rfl) D.F_can_replace.mg D.F_can_replace.fn.kp rfl (ad_cons rfl (g_var g1.toGd rfl rfl rfl rfl) (ad_cons rfl (g_var g1.toGd rfl rfl rfl rfl) (ad_cons rfl (g_var g1.toGd rfl rfl rfl rfl) (ad_cons rfl (g_var g1.toGd rfl rfl rfl rfl) (ad_nil))))) rfl) (fun _ => rfl)) (ad_nil)) rfl) (fun _ => rfl)))
    (bd_one (sd_ret (pd_bool)))
    (bd_nil)))
    (bd_nil) (fun _ => rfl)))
    (bd_nil) (fun _ => rfl))
    (bd_one (sd_ret (pd_bool)))
theorem B10 {Z : Wd} (D : LF Z) : BindsG Z.K D.fd_has_exchanges ["crews"] 1 [] [.at 0] := binds_pos D.F_has_exchanges rfl (fun us hl => match us, hl with | [a0], _ => rfl) (by simp) fun _ _ _ _ _ _ us hl => match us, hl with | [a0], _ => rfl
theorem sc_is_good : FnScope ["crews"] ["crews"] (defScope s_is_good) := ⟨rfl, rfl, rfl, by decide +kernel, rfl, by decide +kernel, by decide +kernel⟩
noncomputable def φ_is_good : SFn :=
    sRet (eCallU fs_has_exchanges 1 0 [.at 0] (aCons (eVar 0) (aNil)) aNil)
noncomputable def fs_is_good : FS := defF 1 φ_is_good
theorem F_is_good {Z : Wd} (D : LF Z) : FnG Z 4 D.f_is_good D.fd_is_good ["crews"] fs_is_good :=
  def_ok (N := ["crews"]) (U := [0]) (χ := φ_is_good) D.F_is_good sc_is_good fun X E g =>
    bd_one (sd_ret (pd_callU g.toGd ((F_has_exchanges D).mono (by decide)) (B10 D) (gl_of g.toGd rfl) D.F_has_exchanges.mg D.F_has_exchanges.fn.kp rfl (ad_cons rfl (g_var g.toGd rfl rfl rfl rfl) (ad_nil)) rfl))
theorem B14 {Z : Wd} (D : LF Z) : BindsG Z.K D.fd_is_good ["crews"] 0 ["crews"] [.at 0] := binds_kw D.F_is_good rfl (by simp) fun _ _ _ _ _ _ us ws h1 h2 => match us, ws, h1, h2 with | [], [b0], _, _ => rfl
theorem B15 {Z : Wd} (D : LF Z) : BindsG Z.K D.fd_is_good ["crews"] 1 [] [.at 0] := binds_pos D.F_is_good rfl (fun us hl => match us, hl with | [a0], _ => rfl) (by simp) fun _ _ _ _ _ _ us hl => match us, hl with | [a0], _ => rfl
theorem sc_law : FnScope ["_law_script", "_law_rng", "_law_lap", "_law_teams", "_law_spot", "_law_some", "_law_before", "_law_want"] ["_law_script"] (defScope s_law) := ⟨rfl, rfl, rfl, by decide +kernel, rfl, by decide +kernel, by decide +kernel⟩
noncomputable def φ_law : SFn :=
    sSeq (sSet 1 (eAl (eCallU fs__law_source 1 0 [.at 0] (aCons (eVar 0) (aNil)) aNil)))
    (sSeq (sFor (iRg rg1 (aCons (eD (.p (.int 8))) (aNil))) (gNm 2)
    (sSeq (sSet 3 (eCallU fs__law_make_any 2 0 [.at 0, .at 1] (aCons (eVar 1) (aCons (eD (.p (.int 5))) (aNil))) aNil))
    (sSeq (sSet 4 (eCallU fs__law_draw 2 0 [.at 0, .at 1] (aCons (eVar 1) (aCons (eCallB bLen (aCons (eVar 3) (aNil))) (aNil))) aNil))
    (sFor (iE (eTup (aCons (eVar 3) (aCons (eBin dAdd (eSl (eVar 3) (oNone) (oSome (eVar 4))) (eSl (eVar 3) (oSome (eBin dAdd (eVar 4) (eD (.p (.int 1))))) (oNone))) (aCons (eSl (eVar 3) (oNone) (oSome (eD (.p (.int 1))))) (aNil)))))) (gNm 5)
    (sIf (tVal (eBin (onP gNe) (eVar 5) (eTup (aNil))))
    (sSeq (sPar 6 7 (aCons (eCallB bRepr (aCons (eVar 5) (aNil))) (aCons (eCallB bRepr (aCons (eCallU fs__law_is_good 1 0 [.at 0] (aCons (eVar 5) (aNil)) aNil) (aNil))) (aNil))))
    (sIf (tOr (tVal (eBin (onP gNe) (eLst (aCons (eCallB bRepr (aCons (eCallU fs_is_good 1 0 [.at 0] (aCons (eVar 5) (aNil)) aNil) (aNil))) (aCons (eCallB bRepr (aCons (eCallU fs_is_good 0 1 [.at 0] aNil (aCons (eVar 5) (aNil))) (aNil))) (aNil)))) (eLst (aCons (eVar 7) (aCons (eVar 7) (aNil)))))) (tVal (eBin (onP gNe) (eCallB bRepr (aCons (eVar 5) (aNil))) (eVar 6))))
    (sRet (eD (.p (.bool false))))
    (sNx)))
    (sNx))
    (sNx))))
    (sNx))
    (sRet (eD (.p (.bool true)))))
noncomputable def fs_law : FS := defF 8 φ_law
theorem F_law {Z : Wd} (D : LF Z) : FnG Z 5 D.f_law D.fd_law ["_law_script"] fs_law :=
  def_ok (N := ["_law_script", "_law_rng", "_law_lap", "_law_teams", "_law_spot", "_law_some", "_law_before", "_law_want"]) (U := [0, 1, 2, 3, 4, 5, 6, 7]) (χ := φ_law) D.F_law sc_law fun X E g =>
    bd_cons (g_set g (by decide) rfl rfl (pd_al (pd_callU g.toGd ((F__law_source D).mono (by decide)) (B11 D) (gl_of g.toGd rfl) D.F__law_source.mg D.F__law_source.fn.kp rfl (ad_cons rfl (g_var g.toGd rfl rfl rfl rfl) (ad_nil)) rfl)) (fun _ => rfl))
    (bd_cons (g_for g (id_range1 (gl_of g.toGd rfl) (no_of g.toGd D.z_range) rfl  (ad_cons rfl (pd_int) (ad_nil))) (g_nm g (by decide) rfl rfl)
    (bd_cons (g_set g (by decide) rfl rfl (pd_callU g.toGd ((F__law_make_any D).mono (by decide)) (B12 D) (gl_of g.toGd rfl) D.F__law_make_any.mg D.F__law_make_any.fn.kp rfl (ad_cons rfl (g_var g.toGd rfl rfl rfl rfl) (ad_cons rfl (pd_int) (ad_nil))) rfl) (fun _ => rfl))
    (bd_cons (g_set g (by decide) rfl rfl (pd_callU g.toGd ((F__law_draw D).mono (by decide)) (B0 D) (gl_of g.toGd rfl) D.F__law_draw.mg D.F__law_draw.fn.kp rfl (ad_cons rfl (g_var g.toGd rfl rfl rfl rfl) (ad_cons rfl (b_len g.toGd D.z_len rfl (ad_cons rfl (g_var g.toGd rfl rfl rfl rfl) (ad_nil)) rfl) (ad_nil))) rfl) (fun _ => rfl))
    (bd_one (g_for g (id_val (pd_tup (ad_cons rfl (g_var g.toGd rfl rfl rfl rfl) (ad_cons rfl (pd_bin (binG_ok g.toGd.ok rfl) (pd_slice (g_var g.toGd rfl rfl rfl rfl) (od_none) (od_some (g_var g.toGd rfl rfl rfl rfl))) (pd_slice (g_var g.toGd rfl rfl rfl rfl) (od_some (pd_bin (binG_ok g.toGd.ok rfl) (g_var g.toGd rfl rfl rfl rfl) (pd_int))) (od_none))) (ad_cons rfl (pd_slice (g_var g.toGd rfl rfl rfl rfl) (od_none) (od_some (pd_int))) (ad_nil)))))) (g_nm g (by decide) rfl rfl)
    (bd_one (sd_if (td_cmp (cmpG_ok g.toGd.ok .NotEq) (g_var g.toGd rfl rfl rfl rfl) (pd_tup (ad_nil)) rfl)
    (bd_cons (g_par g (by decide) (by decide) rfl rfl (by decide) rfl rfl (ad_cons rfl (b_repr g.toGd D.z_repr rfl (ad_cons rfl (g_var g.toGd rfl rfl rfl rfl) (ad_nil)) rfl) (ad_cons rfl (b_repr g.toGd D.z_repr rfl (ad_cons rfl (pd_callU g.toGd ((F__law_is_good D).mono (by decide)) (B13 D) (gl_of g.toGd rfl) D.F__law_is_good.mg D.F__law_is_good.fn.kp rfl (ad_cons rfl (g_var g.toGd rfl rfl rfl rfl) (ad_nil)) rfl) (ad_nil)) rfl) (ad_nil))) (sw2 (by decide) rfl rfl rfl rfl rfl))
    (bd_one (sd_if (td_bool (wd_or (td_cmp (cmpG_ok g.toGd.ok .NotEq) (pd_lst (ad_cons rfl (b_repr g.toGd D.z_repr rfl (ad_cons rfl (pd_callU g.toGd ((F_is_good D).mono (by decide)) (B15 D) (gl_of g.toGd rfl) D.F_is_good.mg D.F_is_good.fn.kp rfl (ad_cons rfl (g_var g.toGd rfl rfl rfl rfl) (ad_nil)) rfl) (ad_nil)) rfl) (ad_cons rfl (b_repr g.toGd D.z_repr rfl (ad_cons rfl (pd_callU0K g.toGd ((F_is_good D).mono (by decide)) (B14 D) (gl_of g.toGd rfl) D.F_is_good.mg D.F_is_good.fn.kp rfl (kd_cons (g_var g.toGd rfl rfl rfl rfl) (kd_nil)) rfl) (ad_nil)) rfl) (ad_nil)))) (pd_lst (ad_cons rfl (g_var g.toGd rfl rfl rfl rfl) (ad_cons rfl (g_var g.toGd rfl rfl rfl rfl) (ad_nil)))) rfl) (wd_or1 (td_cmp (cmpG_ok g.toGd.ok .NotEq) (b_repr g.toGd D.z_repr rfl (ad_cons rfl (g_var g.toGd rfl rfl rfl rfl) (ad_nil)) rfl) (g_var g.toGd rfl rfl rfl rfl) rfl))))
    (bd_one (sd_ret (pd_bool)))
    (bd_nil))))
    (bd_nil)))
    (bd_nil) (fun _ => rfl)))))
    (bd_nil) (fun _ => rfl))
    (bd_one (sd_ret (pd_bool))))

theorem all_mk {l : PySem.W.OpenLaw} {w : World} {K : PySem.W.Frag} {h : Heap} {mg : Str → Option Value} {fa : Addr} (X : K.In h) (G : h.Ns mainGlobals mg) (hfa : mg "law" = some (.ref fa))
    {f1 f2 f3 f4 f5 f6 f7 f8 f9 f10 f11 f12 f13 f14 f15 f16 : Addr} {od1 an1 od2 an2 od3 an3 od4 an4 od5 an5 od6 an6 od7 an7 od8 an8 od9 an9 od10 an10 od11 an11 od12 an12 od13 an13 od14 an14 od15 an15 od16 an16 : Option Addr} {sl1 sl2 sl3 sl4 sl5 sl6 sl7 sl8 sl9 sl10 sl11 sl12 sl13 sl14 sl15 sl16 : Array (Option Value)} {oc1 kV1 dc1 pm1 cd1 ct1 oc2 kV2 dc2 pm2 cd2 ct2 oc3 kV3 dc3 pm3 cd3 ct3 oc4 kV4 dc4 pm4 cd4 ct4 oc5 kV5 dc5 pm5 cd5 ct5 oc6 kV6 dc6 pm6 cd6 ct6 oc7 kV7 dc7 pm7 cd7 ct7 oc8 kV8 dc8 pm8 cd8 ct8 oc9 kV9 dc9 pm9 cd9 ct9 oc10 kV10 dc10 pm10 cd10 ct10 oc11 kV11 dc11 pm11 cd11 ct11 oc12 kV12 dc12 pm12 cd12 ct12 oc13 kV13 dc13 pm13 cd13 ct13 oc14 kV14 dc14 pm14 cd14 ct14 oc15 kV15 dc15 pm15 cd15 ct15 oc16 kV16 dc16 pm16 cd16 ct16 : Value}
    (a1 : PySem.W.nsIn K mainGlobals "_law_source" = some (some (.ref f1))) (l1 : K.lookup f1 = some ⟨oc1, od1, .func (PySem.W.fnOf "_law_source" "_law_source" (defArgs s__law_source) (defBody s__law_source) (defScope s__law_source) .none kV1 dc1 pm1 an1 cd1 ct1), sl1⟩)
    (c1 : PySem.W.codeIn K cd1 "_law_source" = true) (k1 : PySem.W.keepIn K (.ref f1) = true)
    (a2 : PySem.W.nsIn K mainGlobals "_law_draw" = some (some (.ref f2))) (l2 : K.lookup f2 = some ⟨oc2, od2, .func (PySem.W.fnOf "_law_draw" "_law_draw" (defArgs s__law_draw) (defBody s__law_draw) (defScope s__law_draw) .none kV2 dc2 pm2 an2 cd2 ct2), sl2⟩)
    (c2 : PySem.W.codeIn K cd2 "_law_draw" = true) (k2 : PySem.W.keepIn K (.ref f2) = true)
    (a3 : PySem.W.nsIn K mainGlobals "_law_sample" = some (some (.ref f3))) (l3 : K.lookup f3 = some ⟨oc3, od3, .func (PySem.W.fnOf "_law_sample" "_law_sample" (defArgs s__law_sample) (defBody s__law_sample) (defScope s__law_sample) .none kV3 dc3 pm3 an3 cd3 ct3), sl3⟩)
    (c3 : PySem.W.codeIn K cd3 "_law_sample" = true) (k3 : PySem.W.keepIn K (.ref f3) = true)
    (a4 : PySem.W.nsIn K mainGlobals "_law_is_within" = some (some (.ref f4))) (l4 : K.lookup f4 = some ⟨oc4, od4, .func (PySem.W.fnOf "_law_is_within" "_law_is_within" (defArgs s__law_is_within) (defBody s__law_is_within) (defScope s__law_is_within) .none kV4 dc4 pm4 an4 cd4 ct4), sl4⟩)
    (c4 : PySem.W.codeIn K cd4 "_law_is_within" = true) (k4 : PySem.W.keepIn K (.ref f4) = true)
    (a5 : PySem.W.nsIn K mainGlobals "_law_make_teams" = some (some (.ref f5))) (l5 : K.lookup f5 = some ⟨oc5, od5, .func (PySem.W.fnOf "_law_make_teams" "_law_make_teams" (defArgs s__law_make_teams) (defBody s__law_make_teams) (defScope s__law_make_teams) .none kV5 dc5 pm5 an5 cd5 ct5), sl5⟩)
    (c5 : PySem.W.codeIn K cd5 "_law_make_teams" = true) (k5 : PySem.W.keepIn K (.ref f5) = true)
    (a6 : PySem.W.nsIn K mainGlobals "_law_all_sets" = some (some (.ref f6))) (l6 : K.lookup f6 = some ⟨oc6, od6, .func (PySem.W.fnOf "_law_all_sets" "_law_all_sets" (defArgs s__law_all_sets) (defBody s__law_all_sets) (defScope s__law_all_sets) .none kV6 dc6 pm6 an6 cd6 ct6), sl6⟩)
    (c6 : PySem.W.codeIn K cd6 "_law_all_sets" = true) (k6 : PySem.W.keepIn K (.ref f6) = true)
    (a7 : PySem.W.nsIn K mainGlobals "_law_make_good" = some (some (.ref f7))) (l7 : K.lookup f7 = some ⟨oc7, od7, .func (PySem.W.fnOf "_law_make_good" "_law_make_good" (defArgs s__law_make_good) (defBody s__law_make_good) (defScope s__law_make_good) .none kV7 dc7 pm7 an7 cd7 ct7), sl7⟩)
    (c7 : PySem.W.codeIn K cd7 "_law_make_good" = true) (k7 : PySem.W.keepIn K (.ref f7) = true)
    (a8 : PySem.W.nsIn K mainGlobals "_law_make_any" = some (some (.ref f8))) (l8 : K.lookup f8 = some ⟨oc8, od8, .func (PySem.W.fnOf "_law_make_any" "_law_make_any" (defArgs s__law_make_any) (defBody s__law_make_any) (defScope s__law_make_any) .none kV8 dc8 pm8 an8 cd8 ct8), sl8⟩)
    (c8 : PySem.W.codeIn K cd8 "_law_make_any" = true) (k8 : PySem.W.keepIn K (.ref f8) = true)
    (a9 : PySem.W.nsIn K mainGlobals "_law_but" = some (some (.ref f9))) (l9 : K.lookup f9 = some ⟨oc9, od9, .func (PySem.W.fnOf "_law_but" "_law_but" (defArgs s__law_but) (defBody s__law_but) (defScope s__law_but) .none kV9 dc9 pm9 an9 cd9 ct9), sl9⟩)
    (c9 : PySem.W.codeIn K cd9 "_law_but" = true) (k9 : PySem.W.keepIn K (.ref f9) = true)
    (a10 : PySem.W.nsIn K mainGlobals "_law_exchanges" = some (some (.ref f10))) (l10 : K.lookup f10 = some ⟨oc10, od10, .func (PySem.W.fnOf "_law_exchanges" "_law_exchanges" (defArgs s__law_exchanges) (defBody s__law_exchanges) (defScope s__law_exchanges) .none kV10 dc10 pm10 an10 cd10 ct10), sl10⟩)
    (c10 : PySem.W.codeIn K cd10 "_law_exchanges" = true) (k10 : PySem.W.keepIn K (.ref f10) = true)
    (a11 : PySem.W.nsIn K mainGlobals "_law_is_good" = some (some (.ref f11))) (l11 : K.lookup f11 = some ⟨oc11, od11, .func (PySem.W.fnOf "_law_is_good" "_law_is_good" (defArgs s__law_is_good) (defBody s__law_is_good) (defScope s__law_is_good) .none kV11 dc11 pm11 an11 cd11 ct11), sl11⟩)
    (c11 : PySem.W.codeIn K cd11 "_law_is_good" = true) (k11 : PySem.W.keepIn K (.ref f11) = true)
    (a12 : PySem.W.nsIn K mainGlobals "replaced" = some (some (.ref f12))) (l12 : K.lookup f12 = some ⟨oc12, od12, .func (PySem.W.fnOf "replaced" "replaced" (defArgs s_replaced) (defBody s_replaced) (defScope s_replaced) .none kV12 dc12 pm12 an12 cd12 ct12), sl12⟩)
    (c12 : PySem.W.codeIn K cd12 "replaced" = true) (k12 : PySem.W.keepIn K (.ref f12) = true)
    (a13 : PySem.W.nsIn K mainGlobals "can_replace" = some (some (.ref f13))) (l13 : K.lookup f13 = some ⟨oc13, od13, .func (PySem.W.fnOf "can_replace" "can_replace" (defArgs s_can_replace) (defBody s_can_replace) (defScope s_can_replace) .none kV13 dc13 pm13 an13 cd13 ct13), sl13⟩)
    (c13 : PySem.W.codeIn K cd13 "can_replace" = true) (k13 : PySem.W.keepIn K (.ref f13) = true)
    (a14 : PySem.W.nsIn K mainGlobals "has_exchanges" = some (some (.ref f14))) (l14 : K.lookup f14 = some ⟨oc14, od14, .func (PySem.W.fnOf "has_exchanges" "has_exchanges" (defArgs s_has_exchanges) (defBody s_has_exchanges) (defScope s_has_exchanges) .none kV14 dc14 pm14 an14 cd14 ct14), sl14⟩)
    (c14 : PySem.W.codeIn K cd14 "has_exchanges" = true) (k14 : PySem.W.keepIn K (.ref f14) = true)
    (a15 : PySem.W.nsIn K mainGlobals "is_good" = some (some (.ref f15))) (l15 : K.lookup f15 = some ⟨oc15, od15, .func (PySem.W.fnOf "is_good" "is_good" (defArgs s_is_good) (defBody s_is_good) (defScope s_is_good) .none kV15 dc15 pm15 an15 cd15 ct15), sl15⟩)
    (c15 : PySem.W.codeIn K cd15 "is_good" = true) (k15 : PySem.W.keepIn K (.ref f15) = true)
    (a16 : PySem.W.nsIn K mainGlobals "law" = some (some (.ref f16))) (l16 : K.lookup f16 = some ⟨oc16, od16, .func (PySem.W.fnOf "law" "law" (defArgs s_law) (defBody s_law) (defScope s_law) .none kV16 dc16 pm16 an16 cd16 ct16), sl16⟩)
    (c16 : PySem.W.codeIn K cd16 "law" = true) (k16 : PySem.W.keepIn K (.ref f16) = true)
    (z0 : PySem.W.nsIn K mainGlobals "all" = some none)
    (z1 : PySem.W.nsIn K mainGlobals "any" = some none)
    (z2 : PySem.W.nsIn K mainGlobals "len" = some none)
    (z3 : PySem.W.nsIn K mainGlobals "list" = some none)
    (z4 : PySem.W.nsIn K mainGlobals "max" = some none)
    (z5 : PySem.W.nsIn K mainGlobals "min" = some none)
    (z6 : PySem.W.nsIn K mainGlobals "range" = some none)
    (z7 : PySem.W.nsIn K mainGlobals "repr" = some none)
    (z8 : PySem.W.nsIn K mainGlobals "sorted" = some none)
    (z9 : PySem.W.nsIn K mainGlobals "tuple" = some none)
    : ∃ (fd : FuncData) (T : Tb), (∀ (s : Shared) (u : Value), BindsTo s fd ⟨[u], []⟩ [("_law_script", u)]) ∧ ∀ base : Heap, K.In base → base.Ns mainGlobals mg → FnG ⟨l.prog, w, K, mg, base, T⟩ 5 fa fd ["_law_script"] fs_law := by
  have e := hfa.symm.trans (PySem.W.mg_of X G a16)
  have e2 : f16 = fa := (Value.ref.inj (Option.some.inj e)).symm
  subst e2
  refine ⟨PySem.W.fnOf "law" "law" (defArgs s_law) (defBody s_law) (defScope s_law) .none kV16 dc16 pm16 an16 cd16 ct16, ⟨fun _ => 0, fun _ => 0⟩, fun s v => .of_eq rfl, fun base _ _ => ?_⟩
  exact F_law (Z := ⟨l.prog, w, K, mg, base, ⟨fun _ => 0, fun _ => 0⟩⟩) ⟨f1, _, ⟨fun_mk (st := s__law_source) l1 c1 k1, PySem.W.mg_of X G a1⟩, f2, _, ⟨fun_mk (st := s__law_draw) l2 c2 k2, PySem.W.mg_of X G a2⟩, f3, _, ⟨fun_mk (st := s__law_sample) l3 c3 k3, PySem.W.mg_of X G a3⟩, f4, _, ⟨fun_mk (st := s__law_is_within) l4 c4 k4, PySem.W.mg_of X G a4⟩, f5, _, ⟨fun_mk (st := s__law_make_teams) l5 c5 k5, PySem.W.mg_of X G a5⟩, f6, _, ⟨fun_mk (st := s__law_all_sets) l6 c6 k6, PySem.W.mg_of X G a6⟩, f7, _, ⟨fun_mk (st := s__law_make_good) l7 c7 k7, PySem.W.mg_of X G a7⟩, f8, _, ⟨fun_mk (st := s__law_make_any) l8 c8 k8, PySem.W.mg_of X G a8⟩, f9, _, ⟨fun_mk (st := s__law_but) l9 c9 k9, PySem.W.mg_of X G a9⟩, f10, _, ⟨fun_mk (st := s__law_exchanges) l10 c10 k10, PySem.W.mg_of X G a10⟩, f11, _, ⟨fun_mk (st := s__law_is_good) l11 c11 k11, PySem.W.mg_of X G a11⟩, f12, _, ⟨fun_mk (st := s_replaced) l12 c12 k12, PySem.W.mg_of X G a12⟩, f13, _, ⟨fun_mk (st := s_can_replace) l13 c13 k13, PySem.W.mg_of X G a13⟩, f14, _, ⟨fun_mk (st := s_has_exchanges) l14 c14 k14, PySem.W.mg_of X G a14⟩, f15, _, ⟨fun_mk (st := s_is_good) l15 c15 k15, PySem.W.mg_of X G a15⟩, f16, _, ⟨fun_mk (st := s_law) l16 c16 k16, PySem.W.mg_of X G a16⟩, PySem.W.mg_none_of X G z0, PySem.W.mg_none_of X G z1, PySem.W.mg_none_of X G z2, PySem.W.mg_none_of X G z3, PySem.W.mg_none_of X G z4, PySem.W.mg_none_of X G z5, PySem.W.mg_none_of X G z6, PySem.W.mg_none_of X G z7, PySem.W.mg_none_of X G z8, PySem.W.mg_none_of X G z9⟩

end LK49

set_option Elab.async false
set_option linter.all false
set_option maxRecDepth 100000
namespace LK49
open PySem PySem.Spec PyProof.Rows L2 Cb
open PySem.W (Datum DatumOrd Tup)

def tms (xss : List (List Str)) : P := .tuple (xss.map tm)
theorem eq_str (a b : Str) : gEq (.str a) (.str b) = some (.bool (decide (a = b))) := gEq_toD (α := Str) (by decide) a b
theorem ne_str (a b : Str) : gNe (.str a) (.str b) = some (.bool (!decide (a = b))) := gNe_toD (α := Str) (by decide) a b
theorem in_tm (a : Str) (xs : List Str) : gIn (.str a) (tm xs) = some (.bool (decide (a ∈ xs))) := gIn_tuple (α := Str) (by decide) a xs
theorem nin_tm (a : Str) (xs : List Str) : gNotIn (.str a) (tm xs) = some (.bool (!decide (a ∈ xs))) := gNotIn_tuple (α := Str) (by decide) a xs
theorem in_tms (a : List Str) (xss : List (List Str)) : gIn (tm a) (tms xss) = some (.bool (decide (a ∈ xss))) := by
  have := gIn_tuple (α := Tup Str) (by decide) (mkT a) (xss.map mkT)
  rw [← map_tm, ← tm_toD] at this
  rw [tms, this]
  congr 2
  rw [decide_eq_decide, List.mem_map]
  exact ⟨fun ⟨b, hb, e⟩ => by injection e with e; exact e ▸ hb, fun h => ⟨a, h, rfl⟩⟩
theorem iVal_tm (xs : List Str) (M : Mem) : iVal (.p (tm xs)) M = some (stL (xs.map .str)) := rfl
theorem iVal_tms (xss : List (List Str)) (M : Mem) : iVal (.p (tms xss)) M = some (stL (xss.map tm)) := rfl

/-! the program -/
def repl (xs : List Str) (p q : Str) : List Str := srt (xs.map fun m => if m = p then q else m)
theorem replaced_ok {xs : List Str} {p q : Str} {M : Mem} {Q : Ev → Mem → Prop} (hx : xs.length ≤ sizeLine) (h : Q (.d (.p (tm (repl xs p q)))) M) : Ok (fs_replaced [.p (tm xs), .p (.str p), .p (.str q)] M) Q := by
  unfold fs_replaced φ_replaced
  simp only [ok_eBin, ok_eUn, ok_eVar, ok_eD, ok_eIf, ok_tVal, ok_tNot, ok_tAnd, ok_tOr, ok_tTrue, ok_aNil, ok_aCons, ok_eTup, ok_eLst, ok_eCallB, ok_eSl, ok_oNone, ok_oSome, ok_eNot, ok_eAnd, ok_eOr, ok_eAl, ok_eCallU, ok_eMth, ok_sSeq, ok_sNx, ok_sBk, ok_sCt, ok_sDrop, ok_sRet, ok_sRetN, ok_sIf, ok_sSet, ok_sPar, ok_sSto, ok_sFor, ok_iE, ok_iRg, ok_eLc, ok_defF, ok_eDisp, ok_eDNew, pair_nil, pair_cons, Turn_nx, Turn_ct, Turn_bk, Turn_rt, List.take_length, startE, List.map_cons, List.map_nil, Nat.reduceSub, List.replicate_succ, List.replicate_zero, List.append_nil, Ok_ok, Ok_bad, Ok_err, Ok_ne, Ok_stl, List.getElem?_cons_zero, List.getElem?_cons_succ, List.set_cons_zero, List.set_cons_succ, Option.some.injEq, exists_eq_left', exists_eq_left, Ev.stl_d, Ev.stl_new, pv_p, pur_p, purs_nil, purs_p, onP_p, ii_int, Option.map_some, Option.bind_some, D.p.injEq, PyData.int.injEq, PyData.bool.injEq, PyData.str.injEq, PyData.tuple.injEq, PyData.list.injEq, Bool.false_eq_true, if_false, if_true, exists_two, and_true, true_and, and_self, dAdd_int, planD_nil, planD_at, planD_df, List.length_cons, List.length_nil, List.nil_append, List.cons_append, Nat.zero_add, Nat.reduceAdd, exists_some2, exists_pair2, Nat.zero_le, le_line1, le_line2, le_line3, le_line4, le_line5, le_line6, le_line7, le_line8, le_line9, le_line10, le_line11, le_line12, wipeE_nil, wipeE_cons, MObj.toP, fin_d, fin_new, Seq_nx, Seq_bk, Seq_ct, Seq_rt, Br_true, Br_false, decide_true, decide_false, Bool.not_true, Bool.not_false, iVal_tm]
  refine lc_map xs .str (fun m => if m = p then q else m) .str hx (fun a _ => ?_) ?_
  · simp only [ok_eBin, ok_eUn, ok_eVar, ok_eD, ok_eIf, ok_tVal, ok_tNot, ok_tAnd, ok_tOr, ok_tTrue, ok_aNil, ok_aCons, ok_eTup, ok_eLst, ok_eCallB, ok_eSl, ok_oNone, ok_oSome, ok_eNot, ok_eAnd, ok_eOr, ok_eAl, ok_eCallU, ok_eMth, ok_sSeq, ok_sNx, ok_sBk, ok_sCt, ok_sDrop, ok_sRet, ok_sRetN, ok_sIf, ok_sSet, ok_sPar, ok_sSto, ok_sFor, ok_iE, ok_iRg, ok_eLc, ok_defF, ok_eDisp, ok_eDNew, pair_nil, pair_cons, Turn_nx, Turn_ct, Turn_bk, Turn_rt, List.take_length, startE, List.map_cons, List.map_nil, Nat.reduceSub, List.replicate_succ, List.replicate_zero, List.append_nil, Ok_ok, Ok_bad, Ok_err, Ok_ne, Ok_stl, List.getElem?_cons_zero, List.getElem?_cons_succ, List.set_cons_zero, List.set_cons_succ, Option.some.injEq, exists_eq_left', exists_eq_left, Ev.stl_d, Ev.stl_new, pv_p, pur_p, purs_nil, purs_p, onP_p, ii_int, Option.map_some, Option.bind_some, D.p.injEq, PyData.int.injEq, PyData.bool.injEq, PyData.str.injEq, PyData.tuple.injEq, PyData.list.injEq, Bool.false_eq_true, if_false, if_true, exists_two, and_true, true_and, and_self, dAdd_int, planD_nil, planD_at, planD_df, List.length_cons, List.length_nil, List.nil_append, List.cons_append, Nat.zero_add, Nat.reduceAdd, exists_some2, exists_pair2, Nat.zero_le, le_line1, le_line2, le_line3, le_line4, le_line5, le_line6, le_line7, le_line8, le_line9, le_line10, le_line11, le_line12, wipeE_nil, wipeE_cons, MObj.toP, fin_d, fin_new, Seq_nx, Seq_bk, Seq_ct, Seq_rt, Br_true, Br_false, decide_true, decide_false, Bool.not_true, Bool.not_false, eq_str]
    refine Br.by (fun e => ?_) fun e => ?_
    · simp only [ok_eBin, ok_eUn, ok_eVar, ok_eD, ok_eIf, ok_tVal, ok_tNot, ok_tAnd, ok_tOr, ok_tTrue, ok_aNil, ok_aCons, ok_eTup, ok_eLst, ok_eCallB, ok_eSl, ok_oNone, ok_oSome, ok_eNot, ok_eAnd, ok_eOr, ok_eAl, ok_eCallU, ok_eMth, ok_sSeq, ok_sNx, ok_sBk, ok_sCt, ok_sDrop, ok_sRet, ok_sRetN, ok_sIf, ok_sSet, ok_sPar, ok_sSto, ok_sFor, ok_iE, ok_iRg, ok_eLc, ok_defF, ok_eDisp, ok_eDNew, pair_nil, pair_cons, Turn_nx, Turn_ct, Turn_bk, Turn_rt, List.take_length, startE, List.map_cons, List.map_nil, Nat.reduceSub, List.replicate_succ, List.replicate_zero, List.append_nil, Ok_ok, Ok_bad, Ok_err, Ok_ne, Ok_stl, List.getElem?_cons_zero, List.getElem?_cons_succ, List.set_cons_zero, List.set_cons_succ, Option.some.injEq, exists_eq_left', exists_eq_left, Ev.stl_d, Ev.stl_new, pv_p, pur_p, purs_nil, purs_p, onP_p, ii_int, Option.map_some, Option.bind_some, D.p.injEq, PyData.int.injEq, PyData.bool.injEq, PyData.str.injEq, PyData.tuple.injEq, PyData.list.injEq, Bool.false_eq_true, if_false, if_true, exists_two, and_true, true_and, and_self, dAdd_int, planD_nil, planD_at, planD_df, List.length_cons, List.length_nil, List.nil_append, List.cons_append, Nat.zero_add, Nat.reduceAdd, exists_some2, exists_pair2, Nat.zero_le, le_line1, le_line2, le_line3, le_line4, le_line5, le_line6, le_line7, le_line8, le_line9, le_line10, le_line11, le_line12, wipeE_nil, wipeE_cons, MObj.toP, fin_d, fin_new, Seq_nx, Seq_bk, Seq_ct, Seq_rt, Br_true, Br_false, decide_true, decide_false, Bool.not_true, Bool.not_false]
      rw [if_pos (by simpa using e)]
    · simp only [ok_eBin, ok_eUn, ok_eVar, ok_eD, ok_eIf, ok_tVal, ok_tNot, ok_tAnd, ok_tOr, ok_tTrue, ok_aNil, ok_aCons, ok_eTup, ok_eLst, ok_eCallB, ok_eSl, ok_oNone, ok_oSome, ok_eNot, ok_eAnd, ok_eOr, ok_eAl, ok_eCallU, ok_eMth, ok_sSeq, ok_sNx, ok_sBk, ok_sCt, ok_sDrop, ok_sRet, ok_sRetN, ok_sIf, ok_sSet, ok_sPar, ok_sSto, ok_sFor, ok_iE, ok_iRg, ok_eLc, ok_defF, ok_eDisp, ok_eDNew, pair_nil, pair_cons, Turn_nx, Turn_ct, Turn_bk, Turn_rt, List.take_length, startE, List.map_cons, List.map_nil, Nat.reduceSub, List.replicate_succ, List.replicate_zero, List.append_nil, Ok_ok, Ok_bad, Ok_err, Ok_ne, Ok_stl, List.getElem?_cons_zero, List.getElem?_cons_succ, List.set_cons_zero, List.set_cons_succ, Option.some.injEq, exists_eq_left', exists_eq_left, Ev.stl_d, Ev.stl_new, pv_p, pur_p, purs_nil, purs_p, onP_p, ii_int, Option.map_some, Option.bind_some, D.p.injEq, PyData.int.injEq, PyData.bool.injEq, PyData.str.injEq, PyData.tuple.injEq, PyData.list.injEq, Bool.false_eq_true, if_false, if_true, exists_two, and_true, true_and, and_self, dAdd_int, planD_nil, planD_at, planD_df, List.length_cons, List.length_nil, List.nil_append, List.cons_append, Nat.zero_add, Nat.reduceAdd, exists_some2, exists_pair2, Nat.zero_le, le_line1, le_line2, le_line3, le_line4, le_line5, le_line6, le_line7, le_line8, le_line9, le_line10, le_line11, le_line12, wipeE_nil, wipeE_cons, MObj.toP, fin_d, fin_new, Seq_nx, Seq_bk, Seq_ct, Seq_rt, Br_true, Br_false, decide_true, decide_false, Bool.not_true, Bool.not_false]
      rw [if_neg (by simpa using e)]
  · simp only [ok_eBin, ok_eUn, ok_eVar, ok_eD, ok_eIf, ok_tVal, ok_tNot, ok_tAnd, ok_tOr, ok_tTrue, ok_aNil, ok_aCons, ok_eTup, ok_eLst, ok_eCallB, ok_eSl, ok_oNone, ok_oSome, ok_eNot, ok_eAnd, ok_eOr, ok_eAl, ok_eCallU, ok_eMth, ok_sSeq, ok_sNx, ok_sBk, ok_sCt, ok_sDrop, ok_sRet, ok_sRetN, ok_sIf, ok_sSet, ok_sPar, ok_sSto, ok_sFor, ok_iE, ok_iRg, ok_eLc, ok_defF, ok_eDisp, ok_eDNew, pair_nil, pair_cons, Turn_nx, Turn_ct, Turn_bk, Turn_rt, List.take_length, startE, List.map_cons, List.map_nil, Nat.reduceSub, List.replicate_succ, List.replicate_zero, List.append_nil, Ok_ok, Ok_bad, Ok_err, Ok_ne, Ok_stl, List.getElem?_cons_zero, List.getElem?_cons_succ, List.set_cons_zero, List.set_cons_succ, Option.some.injEq, exists_eq_left', exists_eq_left, Ev.stl_d, Ev.stl_new, pv_p, pur_p, purs_nil, purs_p, onP_p, ii_int, Option.map_some, Option.bind_some, D.p.injEq, PyData.int.injEq, PyData.bool.injEq, PyData.str.injEq, PyData.tuple.injEq, PyData.list.injEq, Bool.false_eq_true, if_false, if_true, exists_two, and_true, true_and, and_self, dAdd_int, planD_nil, planD_at, planD_df, List.length_cons, List.length_nil, List.nil_append, List.cons_append, Nat.zero_add, Nat.reduceAdd, exists_some2, exists_pair2, Nat.zero_le, le_line1, le_line2, le_line3, le_line4, le_line5, le_line6, le_line7, le_line8, le_line9, le_line10, le_line11, le_line12, wipeE_nil, wipeE_cons, MObj.toP, fin_d, fin_new, Seq_nx, Seq_bk, Seq_ct, Seq_rt, Br_true, Br_false, decide_true, decide_false, Bool.not_true, Bool.not_false, srt_strs, tup_list]
    exact h
def canRepl (xss : List (List Str)) (xs ys : List Str) (p : Str) : Bool := (ys.filter fun o => !decide (o ∈ xs)).any fun o => decide (repl xs p o ∈ xss)
theorem can_replace_ok {xss : List (List Str)} {xs ys : List Str} {p : Str} {M : Mem} {Q : Ev → Mem → Prop} (hx : xs.length ≤ sizeLine) (hy : ys.length ≤ sizeLine) (h : Q (.d (.p (.bool (canRepl xss xs ys p)))) M) : Ok (fs_can_replace [.p (tms xss), .p (tm xs), .p (tm ys), .p (.str p)] M) Q := by
  unfold fs_can_replace φ_can_replace
  simp only [ok_eBin, ok_eUn, ok_eVar, ok_eD, ok_eIf, ok_tVal, ok_tNot, ok_tAnd, ok_tOr, ok_tTrue, ok_aNil, ok_aCons, ok_eTup, ok_eLst, ok_eCallB, ok_eSl, ok_oNone, ok_oSome, ok_eNot, ok_eAnd, ok_eOr, ok_eAl, ok_eCallU, ok_eMth, ok_sSeq, ok_sNx, ok_sBk, ok_sCt, ok_sDrop, ok_sRet, ok_sRetN, ok_sIf, ok_sSet, ok_sPar, ok_sSto, ok_sFor, ok_iE, ok_iRg, ok_eLc, ok_defF, ok_eDisp, ok_eDNew, pair_nil, pair_cons, Turn_nx, Turn_ct, Turn_bk, Turn_rt, List.take_length, startE, List.map_cons, List.map_nil, Nat.reduceSub, List.replicate_succ, List.replicate_zero, List.append_nil, Ok_ok, Ok_bad, Ok_err, Ok_ne, Ok_stl, List.getElem?_cons_zero, List.getElem?_cons_succ, List.set_cons_zero, List.set_cons_succ, Option.some.injEq, exists_eq_left', exists_eq_left, Ev.stl_d, Ev.stl_new, pv_p, pur_p, purs_nil, purs_p, onP_p, ii_int, Option.map_some, Option.bind_some, D.p.injEq, PyData.int.injEq, PyData.bool.injEq, PyData.str.injEq, PyData.tuple.injEq, PyData.list.injEq, Bool.false_eq_true, if_false, if_true, exists_two, and_true, true_and, and_self, dAdd_int, planD_nil, planD_at, planD_df, List.length_cons, List.length_nil, List.nil_append, List.cons_append, Nat.zero_add, Nat.reduceAdd, exists_some2, exists_pair2, Nat.zero_le, le_line1, le_line2, le_line3, le_line4, le_line5, le_line6, le_line7, le_line8, le_line9, le_line10, le_line11, le_line12, wipeE_nil, wipeE_cons, MObj.toP, fin_d, fin_new, Seq_nx, Seq_bk, Seq_ct, Seq_rt, Br_true, Br_false, decide_true, decide_false, Bool.not_true, Bool.not_false, iVal_tm]
  refine lc_fm ys .str (fun o => !decide (o ∈ xs)) (fun o => decide (repl xs p o ∈ xss)) .bool hy (fun a _ => ?_) (fun a _ _ => ?_) ?_
  · simp only [ok_eBin, ok_eUn, ok_eVar, ok_eD, ok_eIf, ok_tVal, ok_tNot, ok_tAnd, ok_tOr, ok_tTrue, ok_aNil, ok_aCons, ok_eTup, ok_eLst, ok_eCallB, ok_eSl, ok_oNone, ok_oSome, ok_eNot, ok_eAnd, ok_eOr, ok_eAl, ok_eCallU, ok_eMth, ok_sSeq, ok_sNx, ok_sBk, ok_sCt, ok_sDrop, ok_sRet, ok_sRetN, ok_sIf, ok_sSet, ok_sPar, ok_sSto, ok_sFor, ok_iE, ok_iRg, ok_eLc, ok_defF, ok_eDisp, ok_eDNew, pair_nil, pair_cons, Turn_nx, Turn_ct, Turn_bk, Turn_rt, List.take_length, startE, List.map_cons, List.map_nil, Nat.reduceSub, List.replicate_succ, List.replicate_zero, List.append_nil, Ok_ok, Ok_bad, Ok_err, Ok_ne, Ok_stl, List.getElem?_cons_zero, List.getElem?_cons_succ, List.set_cons_zero, List.set_cons_succ, Option.some.injEq, exists_eq_left', exists_eq_left, Ev.stl_d, Ev.stl_new, pv_p, pur_p, purs_nil, purs_p, onP_p, ii_int, Option.map_some, Option.bind_some, D.p.injEq, PyData.int.injEq, PyData.bool.injEq, PyData.str.injEq, PyData.tuple.injEq, PyData.list.injEq, Bool.false_eq_true, if_false, if_true, exists_two, and_true, true_and, and_self, dAdd_int, planD_nil, planD_at, planD_df, List.length_cons, List.length_nil, List.nil_append, List.cons_append, Nat.zero_add, Nat.reduceAdd, exists_some2, exists_pair2, Nat.zero_le, le_line1, le_line2, le_line3, le_line4, le_line5, le_line6, le_line7, le_line8, le_line9, le_line10, le_line11, le_line12, wipeE_nil, wipeE_cons, MObj.toP, fin_d, fin_new, Seq_nx, Seq_bk, Seq_ct, Seq_rt, Br_true, Br_false, decide_true, decide_false, Bool.not_true, Bool.not_false, nin_tm]
  · simp only [ok_eBin, ok_eUn, ok_eVar, ok_eD, ok_eIf, ok_tVal, ok_tNot, ok_tAnd, ok_tOr, ok_tTrue, ok_aNil, ok_aCons, ok_eTup, ok_eLst, ok_eCallB, ok_eSl, ok_oNone, ok_oSome, ok_eNot, ok_eAnd, ok_eOr, ok_eAl, ok_eCallU, ok_eMth, ok_sSeq, ok_sNx, ok_sBk, ok_sCt, ok_sDrop, ok_sRet, ok_sRetN, ok_sIf, ok_sSet, ok_sPar, ok_sSto, ok_sFor, ok_iE, ok_iRg, ok_eLc, ok_defF, ok_eDisp, ok_eDNew, pair_nil, pair_cons, Turn_nx, Turn_ct, Turn_bk, Turn_rt, List.take_length, startE, List.map_cons, List.map_nil, Nat.reduceSub, List.replicate_succ, List.replicate_zero, List.append_nil, Ok_ok, Ok_bad, Ok_err, Ok_ne, Ok_stl, List.getElem?_cons_zero, List.getElem?_cons_succ, List.set_cons_zero, List.set_cons_succ, Option.some.injEq, exists_eq_left', exists_eq_left, Ev.stl_d, Ev.stl_new, pv_p, pur_p, purs_nil, purs_p, onP_p, ii_int, Option.map_some, Option.bind_some, D.p.injEq, PyData.int.injEq, PyData.bool.injEq, PyData.str.injEq, PyData.tuple.injEq, PyData.list.injEq, Bool.false_eq_true, if_false, if_true, exists_two, and_true, true_and, and_self, dAdd_int, planD_nil, planD_at, planD_df, List.length_cons, List.length_nil, List.nil_append, List.cons_append, Nat.zero_add, Nat.reduceAdd, exists_some2, exists_pair2, Nat.zero_le, le_line1, le_line2, le_line3, le_line4, le_line5, le_line6, le_line7, le_line8, le_line9, le_line10, le_line11, le_line12, wipeE_nil, wipeE_cons, MObj.toP, fin_d, fin_new, Seq_nx, Seq_bk, Seq_ct, Seq_rt, Br_true, Br_false, decide_true, decide_false, Bool.not_true, Bool.not_false]
    refine replaced_ok hx ?_
    simp only [ok_eBin, ok_eUn, ok_eVar, ok_eD, ok_eIf, ok_tVal, ok_tNot, ok_tAnd, ok_tOr, ok_tTrue, ok_aNil, ok_aCons, ok_eTup, ok_eLst, ok_eCallB, ok_eSl, ok_oNone, ok_oSome, ok_eNot, ok_eAnd, ok_eOr, ok_eAl, ok_eCallU, ok_eMth, ok_sSeq, ok_sNx, ok_sBk, ok_sCt, ok_sDrop, ok_sRet, ok_sRetN, ok_sIf, ok_sSet, ok_sPar, ok_sSto, ok_sFor, ok_iE, ok_iRg, ok_eLc, ok_defF, ok_eDisp, ok_eDNew, pair_nil, pair_cons, Turn_nx, Turn_ct, Turn_bk, Turn_rt, List.take_length, startE, List.map_cons, List.map_nil, Nat.reduceSub, List.replicate_succ, List.replicate_zero, List.append_nil, Ok_ok, Ok_bad, Ok_err, Ok_ne, Ok_stl, List.getElem?_cons_zero, List.getElem?_cons_succ, List.set_cons_zero, List.set_cons_succ, Option.some.injEq, exists_eq_left', exists_eq_left, Ev.stl_d, Ev.stl_new, pv_p, pur_p, purs_nil, purs_p, onP_p, ii_int, Option.map_some, Option.bind_some, D.p.injEq, PyData.int.injEq, PyData.bool.injEq, PyData.str.injEq, PyData.tuple.injEq, PyData.list.injEq, Bool.false_eq_true, if_false, if_true, exists_two, and_true, true_and, and_self, dAdd_int, planD_nil, planD_at, planD_df, List.length_cons, List.length_nil, List.nil_append, List.cons_append, Nat.zero_add, Nat.reduceAdd, exists_some2, exists_pair2, Nat.zero_le, le_line1, le_line2, le_line3, le_line4, le_line5, le_line6, le_line7, le_line8, le_line9, le_line10, le_line11, le_line12, wipeE_nil, wipeE_cons, MObj.toP, fin_d, fin_new, Seq_nx, Seq_bk, Seq_ct, Seq_rt, Br_true, Br_false, decide_true, decide_false, Bool.not_true, Bool.not_false, in_tms]
  · simp only [ok_eBin, ok_eUn, ok_eVar, ok_eD, ok_eIf, ok_tVal, ok_tNot, ok_tAnd, ok_tOr, ok_tTrue, ok_aNil, ok_aCons, ok_eTup, ok_eLst, ok_eCallB, ok_eSl, ok_oNone, ok_oSome, ok_eNot, ok_eAnd, ok_eOr, ok_eAl, ok_eCallU, ok_eMth, ok_sSeq, ok_sNx, ok_sBk, ok_sCt, ok_sDrop, ok_sRet, ok_sRetN, ok_sIf, ok_sSet, ok_sPar, ok_sSto, ok_sFor, ok_iE, ok_iRg, ok_eLc, ok_defF, ok_eDisp, ok_eDNew, pair_nil, pair_cons, Turn_nx, Turn_ct, Turn_bk, Turn_rt, List.take_length, startE, List.map_cons, List.map_nil, Nat.reduceSub, List.replicate_succ, List.replicate_zero, List.append_nil, Ok_ok, Ok_bad, Ok_err, Ok_ne, Ok_stl, List.getElem?_cons_zero, List.getElem?_cons_succ, List.set_cons_zero, List.set_cons_succ, Option.some.injEq, exists_eq_left', exists_eq_left, Ev.stl_d, Ev.stl_new, pv_p, pur_p, purs_nil, purs_p, onP_p, ii_int, Option.map_some, Option.bind_some, D.p.injEq, PyData.int.injEq, PyData.bool.injEq, PyData.str.injEq, PyData.tuple.injEq, PyData.list.injEq, Bool.false_eq_true, if_false, if_true, exists_two, and_true, true_and, and_self, dAdd_int, planD_nil, planD_at, planD_df, List.length_cons, List.length_nil, List.nil_append, List.cons_append, Nat.zero_add, Nat.reduceAdd, exists_some2, exists_pair2, Nat.zero_le, le_line1, le_line2, le_line3, le_line4, le_line5, le_line6, le_line7, le_line8, le_line9, le_line10, le_line11, le_line12, wipeE_nil, wipeE_cons, MObj.toP, fin_d, fin_new, Seq_nx, Seq_bk, Seq_ct, Seq_rt, Br_true, Br_false, decide_true, decide_false, Bool.not_true, Bool.not_false, any_bools]
    have : ((ys.filter fun o => !decide (o ∈ xs)).map fun o => decide (repl xs p o ∈ xss)).any id = canRepl xss xs ys p := by rw [List.any_map]; rfl
    rw [this]
    exact h
def hasEx (xss : List (List Str)) : Bool := xss.all fun xs => xss.all fun ys => (xs.filter fun p => !decide (p ∈ ys)).all fun p => canRepl xss xs ys p
theorem has_exchanges_ok {xss : List (List Str)} {M : Mem} {Q : Ev → Mem → Prop} (hz : xss.length ≤ sizeLine) (hx : ∀ xs ∈ xss, xs.length ≤ sizeLine) (h : Q (.d (.p (.bool (hasEx xss)))) M) : Ok (fs_has_exchanges [.p (tms xss)] M) Q := by
  unfold fs_has_exchanges φ_has_exchanges
  simp only [ok_eBin, ok_eUn, ok_eVar, ok_eD, ok_eIf, ok_tVal, ok_tNot, ok_tAnd, ok_tOr, ok_tTrue, ok_aNil, ok_aCons, ok_eTup, ok_eLst, ok_eCallB, ok_eSl, ok_oNone, ok_oSome, ok_eNot, ok_eAnd, ok_eOr, ok_eAl, ok_eCallU, ok_eMth, ok_sSeq, ok_sNx, ok_sBk, ok_sCt, ok_sDrop, ok_sRet, ok_sRetN, ok_sIf, ok_sSet, ok_sPar, ok_sSto, ok_sFor, ok_iE, ok_iRg, ok_eLc, ok_defF, ok_eDisp, ok_eDNew, pair_nil, pair_cons, Turn_nx, Turn_ct, Turn_bk, Turn_rt, List.take_length, startE, List.map_cons, List.map_nil, Nat.reduceSub, List.replicate_succ, List.replicate_zero, List.append_nil, Ok_ok, Ok_bad, Ok_err, Ok_ne, Ok_stl, List.getElem?_cons_zero, List.getElem?_cons_succ, List.set_cons_zero, List.set_cons_succ, Option.some.injEq, exists_eq_left', exists_eq_left, Ev.stl_d, Ev.stl_new, pv_p, pur_p, purs_nil, purs_p, onP_p, ii_int, Option.map_some, Option.bind_some, D.p.injEq, PyData.int.injEq, PyData.bool.injEq, PyData.str.injEq, PyData.tuple.injEq, PyData.list.injEq, Bool.false_eq_true, if_false, if_true, exists_two, and_true, true_and, and_self, dAdd_int, planD_nil, planD_at, planD_df, List.length_cons, List.length_nil, List.nil_append, List.cons_append, Nat.zero_add, Nat.reduceAdd, exists_some2, exists_pair2, Nat.zero_le, le_line1, le_line2, le_line3, le_line4, le_line5, le_line6, le_line7, le_line8, le_line9, le_line10, le_line11, le_line12, wipeE_nil, wipeE_cons, MObj.toP, fin_d, fin_new, Seq_nx, Seq_bk, Seq_ct, Seq_rt, Br_true, Br_false, decide_true, decide_false, Bool.not_true, Bool.not_false, iVal_tms]
  refine for_list (fun i ρ M' => M' = M ∧ (∃ a b c, ρ = [some (.p (tms xss)), a, b, c]) ∧ ∀ xs ∈ xss.take i, (xss.all fun ys => (xs.filter fun p => !decide (p ∈ ys)).all fun p => canRepl xss xs ys p) = true) (by rw [List.length_map]; exact hz) ⟨rfl, ⟨_, _, _, rfl⟩, by simp⟩ ?_ ?_
  · rintro i x ρ M' hxi ⟨rfl, ⟨a, b, c, rfl⟩, hall⟩
    rw [List.getElem?_map] at hxi
    obtain ⟨xs, e1, rfl⟩ := Option.map_eq_some_iff.mp hxi
    have hmem : xs ∈ xss := List.mem_of_getElem? e1
    simp only [ok_eBin, ok_eUn, ok_eVar, ok_eD, ok_eIf, ok_tVal, ok_tNot, ok_tAnd, ok_tOr, ok_tTrue, ok_aNil, ok_aCons, ok_eTup, ok_eLst, ok_eCallB, ok_eSl, ok_oNone, ok_oSome, ok_eNot, ok_eAnd, ok_eOr, ok_eAl, ok_eCallU, ok_eMth, ok_sSeq, ok_sNx, ok_sBk, ok_sCt, ok_sDrop, ok_sRet, ok_sRetN, ok_sIf, ok_sSet, ok_sPar, ok_sSto, ok_sFor, ok_iE, ok_iRg, ok_eLc, ok_defF, ok_eDisp, ok_eDNew, pair_nil, pair_cons, Turn_nx, Turn_ct, Turn_bk, Turn_rt, List.take_length, startE, List.map_cons, List.map_nil, Nat.reduceSub, List.replicate_succ, List.replicate_zero, List.append_nil, Ok_ok, Ok_bad, Ok_err, Ok_ne, Ok_stl, List.getElem?_cons_zero, List.getElem?_cons_succ, List.set_cons_zero, List.set_cons_succ, Option.some.injEq, exists_eq_left', exists_eq_left, Ev.stl_d, Ev.stl_new, pv_p, pur_p, purs_nil, purs_p, onP_p, ii_int, Option.map_some, Option.bind_some, D.p.injEq, PyData.int.injEq, PyData.bool.injEq, PyData.str.injEq, PyData.tuple.injEq, PyData.list.injEq, Bool.false_eq_true, if_false, if_true, exists_two, and_true, true_and, and_self, dAdd_int, planD_nil, planD_at, planD_df, List.length_cons, List.length_nil, List.nil_append, List.cons_append, Nat.zero_add, Nat.reduceAdd, exists_some2, exists_pair2, Nat.zero_le, le_line1, le_line2, le_line3, le_line4, le_line5, le_line6, le_line7, le_line8, le_line9, le_line10, le_line11, le_line12, wipeE_nil, wipeE_cons, MObj.toP, fin_d, fin_new, Seq_nx, Seq_bk, Seq_ct, Seq_rt, Br_true, Br_false, decide_true, decide_false, Bool.not_true, Bool.not_false, iVal_tms]
    refine for_list (fun j ρ M2 => M2 = M' ∧ (∃ b c, ρ = [some (.p (tms xss)), some (.p (tm xs)), b, c]) ∧ ∀ ys ∈ xss.take j, ((xs.filter fun p => !decide (p ∈ ys)).all fun p => canRepl xss xs ys p) = true) (by rw [List.length_map]; exact hz) ⟨rfl, ⟨_, _, rfl⟩, by simp⟩ ?_ ?_
    · rintro j y ρ M2 hyj ⟨rfl, ⟨b, c, rfl⟩, hal2⟩
      rw [List.getElem?_map] at hyj
      obtain ⟨ys, e2, rfl⟩ := Option.map_eq_some_iff.mp hyj
      have hmem2 : ys ∈ xss := List.mem_of_getElem? e2
      simp only [ok_eBin, ok_eUn, ok_eVar, ok_eD, ok_eIf, ok_tVal, ok_tNot, ok_tAnd, ok_tOr, ok_tTrue, ok_aNil, ok_aCons, ok_eTup, ok_eLst, ok_eCallB, ok_eSl, ok_oNone, ok_oSome, ok_eNot, ok_eAnd, ok_eOr, ok_eAl, ok_eCallU, ok_eMth, ok_sSeq, ok_sNx, ok_sBk, ok_sCt, ok_sDrop, ok_sRet, ok_sRetN, ok_sIf, ok_sSet, ok_sPar, ok_sSto, ok_sFor, ok_iE, ok_iRg, ok_eLc, ok_defF, ok_eDisp, ok_eDNew, pair_nil, pair_cons, Turn_nx, Turn_ct, Turn_bk, Turn_rt, List.take_length, startE, List.map_cons, List.map_nil, Nat.reduceSub, List.replicate_succ, List.replicate_zero, List.append_nil, Ok_ok, Ok_bad, Ok_err, Ok_ne, Ok_stl, List.getElem?_cons_zero, List.getElem?_cons_succ, List.set_cons_zero, List.set_cons_succ, Option.some.injEq, exists_eq_left', exists_eq_left, Ev.stl_d, Ev.stl_new, pv_p, pur_p, purs_nil, purs_p, onP_p, ii_int, Option.map_some, Option.bind_some, D.p.injEq, PyData.int.injEq, PyData.bool.injEq, PyData.str.injEq, PyData.tuple.injEq, PyData.list.injEq, Bool.false_eq_true, if_false, if_true, exists_two, and_true, true_and, and_self, dAdd_int, planD_nil, planD_at, planD_df, List.length_cons, List.length_nil, List.nil_append, List.cons_append, Nat.zero_add, Nat.reduceAdd, exists_some2, exists_pair2, Nat.zero_le, le_line1, le_line2, le_line3, le_line4, le_line5, le_line6, le_line7, le_line8, le_line9, le_line10, le_line11, le_line12, wipeE_nil, wipeE_cons, MObj.toP, fin_d, fin_new, Seq_nx, Seq_bk, Seq_ct, Seq_rt, Br_true, Br_false, decide_true, decide_false, Bool.not_true, Bool.not_false, iVal_tm]
      refine lc_fm xs .str (fun p => !decide (p ∈ ys)) (fun p => canRepl xss xs ys p) .bool (hx xs hmem) (fun a _ => ?_) (fun a _ _ => ?_) ?_
      · simp only [ok_eBin, ok_eUn, ok_eVar, ok_eD, ok_eIf, ok_tVal, ok_tNot, ok_tAnd, ok_tOr, ok_tTrue, ok_aNil, ok_aCons, ok_eTup, ok_eLst, ok_eCallB, ok_eSl, ok_oNone, ok_oSome, ok_eNot, ok_eAnd, ok_eOr, ok_eAl, ok_eCallU, ok_eMth, ok_sSeq, ok_sNx, ok_sBk, ok_sCt, ok_sDrop, ok_sRet, ok_sRetN, ok_sIf, ok_sSet, ok_sPar, ok_sSto, ok_sFor, ok_iE, ok_iRg, ok_eLc, ok_defF, ok_eDisp, ok_eDNew, pair_nil, pair_cons, Turn_nx, Turn_ct, Turn_bk, Turn_rt, List.take_length, startE, List.map_cons, List.map_nil, Nat.reduceSub, List.replicate_succ, List.replicate_zero, List.append_nil, Ok_ok, Ok_bad, Ok_err, Ok_ne, Ok_stl, List.getElem?_cons_zero, List.getElem?_cons_succ, List.set_cons_zero, List.set_cons_succ, Option.some.injEq, exists_eq_left', exists_eq_left, Ev.stl_d, Ev.stl_new, pv_p, pur_p, purs_nil, purs_p, onP_p, ii_int, Option.map_some, Option.bind_some, D.p.injEq, PyData.int.injEq, PyData.bool.injEq, PyData.str.injEq, PyData.tuple.injEq, PyData.list.injEq, Bool.false_eq_true, if_false, if_true, exists_two, and_true, true_and, and_self, dAdd_int, planD_nil, planD_at, planD_df, List.length_cons, List.length_nil, List.nil_append, List.cons_append, Nat.zero_add, Nat.reduceAdd, exists_some2, exists_pair2, Nat.zero_le, le_line1, le_line2, le_line3, le_line4, le_line5, le_line6, le_line7, le_line8, le_line9, le_line10, le_line11, le_line12, wipeE_nil, wipeE_cons, MObj.toP, fin_d, fin_new, Seq_nx, Seq_bk, Seq_ct, Seq_rt, Br_true, Br_false, decide_true, decide_false, Bool.not_true, Bool.not_false, nin_tm]
      · simp only [ok_eBin, ok_eUn, ok_eVar, ok_eD, ok_eIf, ok_tVal, ok_tNot, ok_tAnd, ok_tOr, ok_tTrue, ok_aNil, ok_aCons, ok_eTup, ok_eLst, ok_eCallB, ok_eSl, ok_oNone, ok_oSome, ok_eNot, ok_eAnd, ok_eOr, ok_eAl, ok_eCallU, ok_eMth, ok_sSeq, ok_sNx, ok_sBk, ok_sCt, ok_sDrop, ok_sRet, ok_sRetN, ok_sIf, ok_sSet, ok_sPar, ok_sSto, ok_sFor, ok_iE, ok_iRg, ok_eLc, ok_defF, ok_eDisp, ok_eDNew, pair_nil, pair_cons, Turn_nx, Turn_ct, Turn_bk, Turn_rt, List.take_length, startE, List.map_cons, List.map_nil, Nat.reduceSub, List.replicate_succ, List.replicate_zero, List.append_nil, Ok_ok, Ok_bad, Ok_err, Ok_ne, Ok_stl, List.getElem?_cons_zero, List.getElem?_cons_succ, List.set_cons_zero, List.set_cons_succ, Option.some.injEq, exists_eq_left', exists_eq_left, Ev.stl_d, Ev.stl_new, pv_p, pur_p, purs_nil, purs_p, onP_p, ii_int, Option.map_some, Option.bind_some, D.p.injEq, PyData.int.injEq, PyData.bool.injEq, PyData.str.injEq, PyData.tuple.injEq, PyData.list.injEq, Bool.false_eq_true, if_false, if_true, exists_two, and_true, true_and, and_self, dAdd_int, planD_nil, planD_at, planD_df, List.length_cons, List.length_nil, List.nil_append, List.cons_append, Nat.zero_add, Nat.reduceAdd, exists_some2, exists_pair2, Nat.zero_le, le_line1, le_line2, le_line3, le_line4, le_line5, le_line6, le_line7, le_line8, le_line9, le_line10, le_line11, le_line12, wipeE_nil, wipeE_cons, MObj.toP, fin_d, fin_new, Seq_nx, Seq_bk, Seq_ct, Seq_rt, Br_true, Br_false, decide_true, decide_false, Bool.not_true, Bool.not_false]
        refine can_replace_ok (hx xs hmem) (hx ys hmem2) ?_
        simp only [ok_eBin, ok_eUn, ok_eVar, ok_eD, ok_eIf, ok_tVal, ok_tNot, ok_tAnd, ok_tOr, ok_tTrue, ok_aNil, ok_aCons, ok_eTup, ok_eLst, ok_eCallB, ok_eSl, ok_oNone, ok_oSome, ok_eNot, ok_eAnd, ok_eOr, ok_eAl, ok_eCallU, ok_eMth, ok_sSeq, ok_sNx, ok_sBk, ok_sCt, ok_sDrop, ok_sRet, ok_sRetN, ok_sIf, ok_sSet, ok_sPar, ok_sSto, ok_sFor, ok_iE, ok_iRg, ok_eLc, ok_defF, ok_eDisp, ok_eDNew, pair_nil, pair_cons, Turn_nx, Turn_ct, Turn_bk, Turn_rt, List.take_length, startE, List.map_cons, List.map_nil, Nat.reduceSub, List.replicate_succ, List.replicate_zero, List.append_nil, Ok_ok, Ok_bad, Ok_err, Ok_ne, Ok_stl, List.getElem?_cons_zero, List.getElem?_cons_succ, List.set_cons_zero, List.set_cons_succ, Option.some.injEq, exists_eq_left', exists_eq_left, Ev.stl_d, Ev.stl_new, pv_p, pur_p, purs_nil, purs_p, onP_p, ii_int, Option.map_some, Option.bind_some, D.p.injEq, PyData.int.injEq, PyData.bool.injEq, PyData.str.injEq, PyData.tuple.injEq, PyData.list.injEq, Bool.false_eq_true, if_false, if_true, exists_two, and_true, true_and, and_self, dAdd_int, planD_nil, planD_at, planD_df, List.length_cons, List.length_nil, List.nil_append, List.cons_append, Nat.zero_add, Nat.reduceAdd, exists_some2, exists_pair2, Nat.zero_le, le_line1, le_line2, le_line3, le_line4, le_line5, le_line6, le_line7, le_line8, le_line9, le_line10, le_line11, le_line12, wipeE_nil, wipeE_cons, MObj.toP, fin_d, fin_new, Seq_nx, Seq_bk, Seq_ct, Seq_rt, Br_true, Br_false, decide_true, decide_false, Bool.not_true, Bool.not_false]
      · have e3 : (((xs.filter fun p => !decide (p ∈ ys)).map fun p => canRepl xss xs ys p).all id) = ((xs.filter fun p => !decide (p ∈ ys)).all fun p => canRepl xss xs ys p) := by rw [List.all_map]; rfl
        simp only [ok_eBin, ok_eUn, ok_eVar, ok_eD, ok_eIf, ok_tVal, ok_tNot, ok_tAnd, ok_tOr, ok_tTrue, ok_aNil, ok_aCons, ok_eTup, ok_eLst, ok_eCallB, ok_eSl, ok_oNone, ok_oSome, ok_eNot, ok_eAnd, ok_eOr, ok_eAl, ok_eCallU, ok_eMth, ok_sSeq, ok_sNx, ok_sBk, ok_sCt, ok_sDrop, ok_sRet, ok_sRetN, ok_sIf, ok_sSet, ok_sPar, ok_sSto, ok_sFor, ok_iE, ok_iRg, ok_eLc, ok_defF, ok_eDisp, ok_eDNew, pair_nil, pair_cons, Turn_nx, Turn_ct, Turn_bk, Turn_rt, List.take_length, startE, List.map_cons, List.map_nil, Nat.reduceSub, List.replicate_succ, List.replicate_zero, List.append_nil, Ok_ok, Ok_bad, Ok_err, Ok_ne, Ok_stl, List.getElem?_cons_zero, List.getElem?_cons_succ, List.set_cons_zero, List.set_cons_succ, Option.some.injEq, exists_eq_left', exists_eq_left, Ev.stl_d, Ev.stl_new, pv_p, pur_p, purs_nil, purs_p, onP_p, ii_int, Option.map_some, Option.bind_some, D.p.injEq, PyData.int.injEq, PyData.bool.injEq, PyData.str.injEq, PyData.tuple.injEq, PyData.list.injEq, Bool.false_eq_true, if_false, if_true, exists_two, and_true, true_and, and_self, dAdd_int, planD_nil, planD_at, planD_df, List.length_cons, List.length_nil, List.nil_append, List.cons_append, Nat.zero_add, Nat.reduceAdd, exists_some2, exists_pair2, Nat.zero_le, le_line1, le_line2, le_line3, le_line4, le_line5, le_line6, le_line7, le_line8, le_line9, le_line10, le_line11, le_line12, wipeE_nil, wipeE_cons, MObj.toP, fin_d, fin_new, Seq_nx, Seq_bk, Seq_ct, Seq_rt, Br_true, Br_false, decide_true, decide_false, Bool.not_true, Bool.not_false, all_bools, e3]
        refine Br.by (fun e => ?_) fun e => ?_
        · -- not all
          simp only [ok_eBin, ok_eUn, ok_eVar, ok_eD, ok_eIf, ok_tVal, ok_tNot, ok_tAnd, ok_tOr, ok_tTrue, ok_aNil, ok_aCons, ok_eTup, ok_eLst, ok_eCallB, ok_eSl, ok_oNone, ok_oSome, ok_eNot, ok_eAnd, ok_eOr, ok_eAl, ok_eCallU, ok_eMth, ok_sSeq, ok_sNx, ok_sBk, ok_sCt, ok_sDrop, ok_sRet, ok_sRetN, ok_sIf, ok_sSet, ok_sPar, ok_sSto, ok_sFor, ok_iE, ok_iRg, ok_eLc, ok_defF, ok_eDisp, ok_eDNew, pair_nil, pair_cons, Turn_nx, Turn_ct, Turn_bk, Turn_rt, List.take_length, startE, List.map_cons, List.map_nil, Nat.reduceSub, List.replicate_succ, List.replicate_zero, List.append_nil, Ok_ok, Ok_bad, Ok_err, Ok_ne, Ok_stl, List.getElem?_cons_zero, List.getElem?_cons_succ, List.set_cons_zero, List.set_cons_succ, Option.some.injEq, exists_eq_left', exists_eq_left, Ev.stl_d, Ev.stl_new, pv_p, pur_p, purs_nil, purs_p, onP_p, ii_int, Option.map_some, Option.bind_some, D.p.injEq, PyData.int.injEq, PyData.bool.injEq, PyData.str.injEq, PyData.tuple.injEq, PyData.list.injEq, Bool.false_eq_true, if_false, if_true, exists_two, and_true, true_and, and_self, dAdd_int, planD_nil, planD_at, planD_df, List.length_cons, List.length_nil, List.nil_append, List.cons_append, Nat.zero_add, Nat.reduceAdd, exists_some2, exists_pair2, Nat.zero_le, le_line1, le_line2, le_line3, le_line4, le_line5, le_line6, le_line7, le_line8, le_line9, le_line10, le_line11, le_line12, wipeE_nil, wipeE_cons, MObj.toP, fin_d, fin_new, Seq_nx, Seq_bk, Seq_ct, Seq_rt, Br_true, Br_false, decide_true, decide_false, Bool.not_true, Bool.not_false]
          have : hasEx xss = false := by
            rw [Bool.eq_false_iff]
            intro hh
            unfold hasEx at hh
            have := (List.all_eq_true.mp ((List.all_eq_true.mp hh) xs hmem)) ys hmem2
            rw [this] at e
            cases e
          rw [this] at h
          exact h
        · simp only [ok_eBin, ok_eUn, ok_eVar, ok_eD, ok_eIf, ok_tVal, ok_tNot, ok_tAnd, ok_tOr, ok_tTrue, ok_aNil, ok_aCons, ok_eTup, ok_eLst, ok_eCallB, ok_eSl, ok_oNone, ok_oSome, ok_eNot, ok_eAnd, ok_eOr, ok_eAl, ok_eCallU, ok_eMth, ok_sSeq, ok_sNx, ok_sBk, ok_sCt, ok_sDrop, ok_sRet, ok_sRetN, ok_sIf, ok_sSet, ok_sPar, ok_sSto, ok_sFor, ok_iE, ok_iRg, ok_eLc, ok_defF, ok_eDisp, ok_eDNew, pair_nil, pair_cons, Turn_nx, Turn_ct, Turn_bk, Turn_rt, List.take_length, startE, List.map_cons, List.map_nil, Nat.reduceSub, List.replicate_succ, List.replicate_zero, List.append_nil, Ok_ok, Ok_bad, Ok_err, Ok_ne, Ok_stl, List.getElem?_cons_zero, List.getElem?_cons_succ, List.set_cons_zero, List.set_cons_succ, Option.some.injEq, exists_eq_left', exists_eq_left, Ev.stl_d, Ev.stl_new, pv_p, pur_p, purs_nil, purs_p, onP_p, ii_int, Option.map_some, Option.bind_some, D.p.injEq, PyData.int.injEq, PyData.bool.injEq, PyData.str.injEq, PyData.tuple.injEq, PyData.list.injEq, Bool.false_eq_true, if_false, if_true, exists_two, and_true, true_and, and_self, dAdd_int, planD_nil, planD_at, planD_df, List.length_cons, List.length_nil, List.nil_append, List.cons_append, Nat.zero_add, Nat.reduceAdd, exists_some2, exists_pair2, Nat.zero_le, le_line1, le_line2, le_line3, le_line4, le_line5, le_line6, le_line7, le_line8, le_line9, le_line10, le_line11, le_line12, wipeE_nil, wipeE_cons, MObj.toP, fin_d, fin_new, Seq_nx, Seq_bk, Seq_ct, Seq_rt, Br_true, Br_false, decide_true, decide_false, Bool.not_true, Bool.not_false]
          refine ⟨⟨_, _, rfl⟩, fun zs hz => ?_⟩
          rw [List.take_add_one, e2] at hz
          rcases List.mem_append.mp hz with hz | hz
          · exact hal2 zs hz
          · simp at hz
            subst hz
            simpa using e
    · rintro ρ M2 ⟨rfl, ⟨b, c, rfl⟩, hal2⟩
      simp only [ok_eBin, ok_eUn, ok_eVar, ok_eD, ok_eIf, ok_tVal, ok_tNot, ok_tAnd, ok_tOr, ok_tTrue, ok_aNil, ok_aCons, ok_eTup, ok_eLst, ok_eCallB, ok_eSl, ok_oNone, ok_oSome, ok_eNot, ok_eAnd, ok_eOr, ok_eAl, ok_eCallU, ok_eMth, ok_sSeq, ok_sNx, ok_sBk, ok_sCt, ok_sDrop, ok_sRet, ok_sRetN, ok_sIf, ok_sSet, ok_sPar, ok_sSto, ok_sFor, ok_iE, ok_iRg, ok_eLc, ok_defF, ok_eDisp, ok_eDNew, pair_nil, pair_cons, Turn_nx, Turn_ct, Turn_bk, Turn_rt, List.take_length, startE, List.map_cons, List.map_nil, Nat.reduceSub, List.replicate_succ, List.replicate_zero, List.append_nil, Ok_ok, Ok_bad, Ok_err, Ok_ne, Ok_stl, List.getElem?_cons_zero, List.getElem?_cons_succ, List.set_cons_zero, List.set_cons_succ, Option.some.injEq, exists_eq_left', exists_eq_left, Ev.stl_d, Ev.stl_new, pv_p, pur_p, purs_nil, purs_p, onP_p, ii_int, Option.map_some, Option.bind_some, D.p.injEq, PyData.int.injEq, PyData.bool.injEq, PyData.str.injEq, PyData.tuple.injEq, PyData.list.injEq, Bool.false_eq_true, if_false, if_true, exists_two, and_true, true_and, and_self, dAdd_int, planD_nil, planD_at, planD_df, List.length_cons, List.length_nil, List.nil_append, List.cons_append, Nat.zero_add, Nat.reduceAdd, exists_some2, exists_pair2, Nat.zero_le, le_line1, le_line2, le_line3, le_line4, le_line5, le_line6, le_line7, le_line8, le_line9, le_line10, le_line11, le_line12, wipeE_nil, wipeE_cons, MObj.toP, fin_d, fin_new, Seq_nx, Seq_bk, Seq_ct, Seq_rt, Br_true, Br_false, decide_true, decide_false, Bool.not_true, Bool.not_false]
      refine ⟨⟨_, _, _, rfl⟩, fun zs hz => ?_⟩
      rw [List.take_add_one, e1] at hz
      rcases List.mem_append.mp hz with hz | hz
      · exact hall zs hz
      · simp at hz
        subst hz
        rw [List.length_map, List.take_length] at hal2
        exact List.all_eq_true.mpr hal2
  · rintro ρ M' ⟨rfl, ⟨a, b, c, rfl⟩, hall⟩
    simp only [ok_eBin, ok_eUn, ok_eVar, ok_eD, ok_eIf, ok_tVal, ok_tNot, ok_tAnd, ok_tOr, ok_tTrue, ok_aNil, ok_aCons, ok_eTup, ok_eLst, ok_eCallB, ok_eSl, ok_oNone, ok_oSome, ok_eNot, ok_eAnd, ok_eOr, ok_eAl, ok_eCallU, ok_eMth, ok_sSeq, ok_sNx, ok_sBk, ok_sCt, ok_sDrop, ok_sRet, ok_sRetN, ok_sIf, ok_sSet, ok_sPar, ok_sSto, ok_sFor, ok_iE, ok_iRg, ok_eLc, ok_defF, ok_eDisp, ok_eDNew, pair_nil, pair_cons, Turn_nx, Turn_ct, Turn_bk, Turn_rt, List.take_length, startE, List.map_cons, List.map_nil, Nat.reduceSub, List.replicate_succ, List.replicate_zero, List.append_nil, Ok_ok, Ok_bad, Ok_err, Ok_ne, Ok_stl, List.getElem?_cons_zero, List.getElem?_cons_succ, List.set_cons_zero, List.set_cons_succ, Option.some.injEq, exists_eq_left', exists_eq_left, Ev.stl_d, Ev.stl_new, pv_p, pur_p, purs_nil, purs_p, onP_p, ii_int, Option.map_some, Option.bind_some, D.p.injEq, PyData.int.injEq, PyData.bool.injEq, PyData.str.injEq, PyData.tuple.injEq, PyData.list.injEq, Bool.false_eq_true, if_false, if_true, exists_two, and_true, true_and, and_self, dAdd_int, planD_nil, planD_at, planD_df, List.length_cons, List.length_nil, List.nil_append, List.cons_append, Nat.zero_add, Nat.reduceAdd, exists_some2, exists_pair2, Nat.zero_le, le_line1, le_line2, le_line3, le_line4, le_line5, le_line6, le_line7, le_line8, le_line9, le_line10, le_line11, le_line12, wipeE_nil, wipeE_cons, MObj.toP, fin_d, fin_new, Seq_nx, Seq_bk, Seq_ct, Seq_rt, Br_true, Br_false, decide_true, decide_false, Bool.not_true, Bool.not_false]
    have : hasEx xss = true := by
      rw [List.length_map, List.take_length] at hall
      exact List.all_eq_true.mpr hall
    rw [this] at h
    exact h
end LK49

set_option Elab.async false
set_option linter.all false
set_option maxRecDepth 100000
namespace LK49
open PySem PySem.Spec PyProof.Rows L2 Cb
open PySem.W (Datum DatumOrd Tup)

theorem tms_sub (xss : List (List Str)) (i : Nat) (M : Mem) : dSub (.p (tms xss)) (.p (.int (i : Int))) M = (xss[i]?).map fun xs => .d (.p (tm xs)) := by
  show (atI (xss.map tm) (i : Int)).map _ = _
  rw [atI_nat', List.getElem?_map]
  cases xss[i]? <;> rfl
theorem len_tms (xss : List (List Str)) (M : Mem) : bLen [.p (tms xss)] M = some (.d (.p (.int xss.length)), M) := by
  show bLen [.p (.tuple (xss.map tm))] M = _
  rw [Cb.len_tuple, List.length_map]
theorem tup_strs (xs : List Str) (M : Mem) : bTuple [.p (.list (xs.map .str))] M = some (.d (.p (tm xs)), M) := rfl
def but (xs : List Str) (p : Str) : List Str := xs.filter fun m => !decide (m = p)
theorem but_ok {xs : List Str} {p : Str} {M : Mem} {Q : Ev → Mem → Prop} (hx : xs.length ≤ sizeLine) (h : Q (.d (.p (tm (but xs p)))) M) : Ok (fs__law_but [.p (tm xs), .p (.str p)] M) Q := by
  unfold fs__law_but φ__law_but
  simp only [ok_eBin, ok_eUn, ok_eVar, ok_eD, ok_eIf, ok_tVal, ok_tNot, ok_tAnd, ok_tOr, ok_tTrue, ok_aNil, ok_aCons, ok_eTup, ok_eLst, ok_eCallB, ok_eSl, ok_oNone, ok_oSome, ok_eNot, ok_eAnd, ok_eOr, ok_eAl, ok_eCallU, ok_eMth, ok_sSeq, ok_sNx, ok_sBk, ok_sCt, ok_sDrop, ok_sRet, ok_sRetN, ok_sIf, ok_sSet, ok_sPar, ok_sSto, ok_sFor, ok_iE, ok_iRg, ok_eLc, ok_defF, ok_eDisp, ok_eDNew, pair_nil, pair_cons, Turn_nx, Turn_ct, Turn_bk, Turn_rt, List.take_length, startE, List.map_cons, List.map_nil, Nat.reduceSub, List.replicate_succ, List.replicate_zero, List.append_nil, Ok_ok, Ok_bad, Ok_err, Ok_ne, Ok_stl, List.getElem?_cons_zero, List.getElem?_cons_succ, List.set_cons_zero, List.set_cons_succ, Option.some.injEq, exists_eq_left', exists_eq_left, Ev.stl_d, Ev.stl_new, pv_p, pur_p, purs_nil, purs_p, onP_p, ii_int, Option.map_some, Option.bind_some, D.p.injEq, PyData.int.injEq, PyData.bool.injEq, PyData.str.injEq, PyData.tuple.injEq, PyData.list.injEq, Bool.false_eq_true, if_false, if_true, exists_two, and_true, true_and, and_self, dAdd_int, planD_nil, planD_at, planD_df, List.length_cons, List.length_nil, List.nil_append, List.cons_append, Nat.zero_add, Nat.reduceAdd, exists_some2, exists_pair2, Nat.zero_le, le_line1, le_line2, le_line3, le_line4, le_line5, le_line6, le_line7, le_line8, le_line9, le_line10, le_line11, le_line12, wipeE_nil, wipeE_cons, MObj.toP, fin_d, fin_new, Seq_nx, Seq_bk, Seq_ct, Seq_rt, Br_true, Br_false, decide_true, decide_false, Bool.not_true, Bool.not_false, iVal_tm]
  refine lc_filter xs .str (fun m => !decide (m = p)) hx (fun a _ => ?_) (fun a _ => ?_) ?_
  · simp only [ok_eBin, ok_eUn, ok_eVar, ok_eD, ok_eIf, ok_tVal, ok_tNot, ok_tAnd, ok_tOr, ok_tTrue, ok_aNil, ok_aCons, ok_eTup, ok_eLst, ok_eCallB, ok_eSl, ok_oNone, ok_oSome, ok_eNot, ok_eAnd, ok_eOr, ok_eAl, ok_eCallU, ok_eMth, ok_sSeq, ok_sNx, ok_sBk, ok_sCt, ok_sDrop, ok_sRet, ok_sRetN, ok_sIf, ok_sSet, ok_sPar, ok_sSto, ok_sFor, ok_iE, ok_iRg, ok_eLc, ok_defF, ok_eDisp, ok_eDNew, pair_nil, pair_cons, Turn_nx, Turn_ct, Turn_bk, Turn_rt, List.take_length, startE, List.map_cons, List.map_nil, Nat.reduceSub, List.replicate_succ, List.replicate_zero, List.append_nil, Ok_ok, Ok_bad, Ok_err, Ok_ne, Ok_stl, List.getElem?_cons_zero, List.getElem?_cons_succ, List.set_cons_zero, List.set_cons_succ, Option.some.injEq, exists_eq_left', exists_eq_left, Ev.stl_d, Ev.stl_new, pv_p, pur_p, purs_nil, purs_p, onP_p, ii_int, Option.map_some, Option.bind_some, D.p.injEq, PyData.int.injEq, PyData.bool.injEq, PyData.str.injEq, PyData.tuple.injEq, PyData.list.injEq, Bool.false_eq_true, if_false, if_true, exists_two, and_true, true_and, and_self, dAdd_int, planD_nil, planD_at, planD_df, List.length_cons, List.length_nil, List.nil_append, List.cons_append, Nat.zero_add, Nat.reduceAdd, exists_some2, exists_pair2, Nat.zero_le, le_line1, le_line2, le_line3, le_line4, le_line5, le_line6, le_line7, le_line8, le_line9, le_line10, le_line11, le_line12, wipeE_nil, wipeE_cons, MObj.toP, fin_d, fin_new, Seq_nx, Seq_bk, Seq_ct, Seq_rt, Br_true, Br_false, decide_true, decide_false, Bool.not_true, Bool.not_false, ne_str]
  · simp only [ok_eBin, ok_eUn, ok_eVar, ok_eD, ok_eIf, ok_tVal, ok_tNot, ok_tAnd, ok_tOr, ok_tTrue, ok_aNil, ok_aCons, ok_eTup, ok_eLst, ok_eCallB, ok_eSl, ok_oNone, ok_oSome, ok_eNot, ok_eAnd, ok_eOr, ok_eAl, ok_eCallU, ok_eMth, ok_sSeq, ok_sNx, ok_sBk, ok_sCt, ok_sDrop, ok_sRet, ok_sRetN, ok_sIf, ok_sSet, ok_sPar, ok_sSto, ok_sFor, ok_iE, ok_iRg, ok_eLc, ok_defF, ok_eDisp, ok_eDNew, pair_nil, pair_cons, Turn_nx, Turn_ct, Turn_bk, Turn_rt, List.take_length, startE, List.map_cons, List.map_nil, Nat.reduceSub, List.replicate_succ, List.replicate_zero, List.append_nil, Ok_ok, Ok_bad, Ok_err, Ok_ne, Ok_stl, List.getElem?_cons_zero, List.getElem?_cons_succ, List.set_cons_zero, List.set_cons_succ, Option.some.injEq, exists_eq_left', exists_eq_left, Ev.stl_d, Ev.stl_new, pv_p, pur_p, purs_nil, purs_p, onP_p, ii_int, Option.map_some, Option.bind_some, D.p.injEq, PyData.int.injEq, PyData.bool.injEq, PyData.str.injEq, PyData.tuple.injEq, PyData.list.injEq, Bool.false_eq_true, if_false, if_true, exists_two, and_true, true_and, and_self, dAdd_int, planD_nil, planD_at, planD_df, List.length_cons, List.length_nil, List.nil_append, List.cons_append, Nat.zero_add, Nat.reduceAdd, exists_some2, exists_pair2, Nat.zero_le, le_line1, le_line2, le_line3, le_line4, le_line5, le_line6, le_line7, le_line8, le_line9, le_line10, le_line11, le_line12, wipeE_nil, wipeE_cons, MObj.toP, fin_d, fin_new, Seq_nx, Seq_bk, Seq_ct, Seq_rt, Br_true, Br_false, decide_true, decide_false, Bool.not_true, Bool.not_false]
  · simp only [ok_eBin, ok_eUn, ok_eVar, ok_eD, ok_eIf, ok_tVal, ok_tNot, ok_tAnd, ok_tOr, ok_tTrue, ok_aNil, ok_aCons, ok_eTup, ok_eLst, ok_eCallB, ok_eSl, ok_oNone, ok_oSome, ok_eNot, ok_eAnd, ok_eOr, ok_eAl, ok_eCallU, ok_eMth, ok_sSeq, ok_sNx, ok_sBk, ok_sCt, ok_sDrop, ok_sRet, ok_sRetN, ok_sIf, ok_sSet, ok_sPar, ok_sSto, ok_sFor, ok_iE, ok_iRg, ok_eLc, ok_defF, ok_eDisp, ok_eDNew, pair_nil, pair_cons, Turn_nx, Turn_ct, Turn_bk, Turn_rt, List.take_length, startE, List.map_cons, List.map_nil, Nat.reduceSub, List.replicate_succ, List.replicate_zero, List.append_nil, Ok_ok, Ok_bad, Ok_err, Ok_ne, Ok_stl, List.getElem?_cons_zero, List.getElem?_cons_succ, List.set_cons_zero, List.set_cons_succ, Option.some.injEq, exists_eq_left', exists_eq_left, Ev.stl_d, Ev.stl_new, pv_p, pur_p, purs_nil, purs_p, onP_p, ii_int, Option.map_some, Option.bind_some, D.p.injEq, PyData.int.injEq, PyData.bool.injEq, PyData.str.injEq, PyData.tuple.injEq, PyData.list.injEq, Bool.false_eq_true, if_false, if_true, exists_two, and_true, true_and, and_self, dAdd_int, planD_nil, planD_at, planD_df, List.length_cons, List.length_nil, List.nil_append, List.cons_append, Nat.zero_add, Nat.reduceAdd, exists_some2, exists_pair2, Nat.zero_le, le_line1, le_line2, le_line3, le_line4, le_line5, le_line6, le_line7, le_line8, le_line9, le_line10, le_line11, le_line12, wipeE_nil, wipeE_cons, MObj.toP, fin_d, fin_new, Seq_nx, Seq_bk, Seq_ct, Seq_rt, Br_true, Br_false, decide_true, decide_false, Bool.not_true, Bool.not_false, tup_strs]
    exact h
/-- the names -/
def NM : List Str := ["a", "b", "c", "d", "ed", "zzzzzzzz"]
/-- the teams that are built -/
structure GT (xss : List (List Str)) : Prop where
  few : xss.length ≤ 100
  team : ∀ xs ∈ xss, xs ≠ [] ∧ xs.length ≤ 10 ∧ xs.Nodup ∧ ∀ x ∈ xs, x ∈ NM
theorem GT.sz {xss : List (List Str)} (g : GT xss) : xss.length ≤ sizeLine := by have := g.few; rw [sizeLine_eq]; omega
theorem GT.tz {xss : List (List Str)} (g : GT xss) : ∀ xs ∈ xss, xs.length ≤ sizeLine := fun xs h => by have := (g.team xs h).2.1; rw [sizeLine_eq]; omega
/-- those who can take the place -/
def far (xss : List (List Str)) (xs ys : List Str) (p : Str) : List Str := (ys.filter fun o => !decide (o ∈ xs)).filter fun o => decide (srt (but xs p ++ [o]) ∈ xss)
def badRow : P → Bool
  | .tuple [_, _, _, .list []] => true
  | _ => false
def rowOk (r : P) : Prop := ∃ (i j : Int) (s : Str) (l : List Str), r = .tuple [.int i, .int j, .str s, .list (l.map .str)]
def exRow (xss : List (List Str)) (xs ys : List Str) : Bool := (xs.filter fun p => !decide (p ∈ ys)).any fun p => (far xss xs ys p).isEmpty
theorem badRow_eq (i j : Int) (s : Str) (l : List Str) : badRow (.tuple [.int i, .int j, .str s, .list (l.map .str)]) = l.isEmpty := by
  cases l <;> rfl
theorem str_in (o : Str) (M : Mem) : purs [.p (.str o)] M = some ([.str o], M) := rfl
theorem tm_add {xs : List Str} {o : Str} (h : xs.length ≤ 10) (M : Mem) : dAdd (.p (tm xs)) (.p (.tuple [.str o])) M = some (.d (.p (tm (xs ++ [o])))) := by
  have : dAdd (.p (.tuple (xs.map .str))) (.p (.tuple [.str o])) M = some (.d (.p (.tuple (xs.map .str ++ [.str o])))) := dAdd_tuple (by rw [List.length_map, sizeLine_eq]; simp; omega) M
  rw [tm, this, tm, List.map_append]
  rfl
theorem srt_tm (xs : List Str) (M : Mem) : bSrt [.p (tm xs)] M = some (.new (.lst ((srt xs).map .str)), M) := srt_strsT xs M
theorem but_len (xs : List Str) (p : Str) : (but xs p).length ≤ xs.length := List.length_filter_le _ _
set_option maxHeartbeats 1000000 in
theorem exchanges_ok {xss : List (List Str)} (g : GT xss) {M : Mem} {Q : Ev → Mem → Prop}
    (h : ∀ rows : List P, rows.length ≤ sizeLine → (∀ r ∈ rows, rowOk r) → rows.any badRow = (xss.any fun xs => xss.any fun ys => exRow xss xs ys) → Q (.new (.lst rows)) M) : Ok (fs__law_exchanges [.p (tms xss)] M) Q := by
  have hn := g.few
  have hsm : rg1 [.p (.int (xss.length : Int))] = some (stR 0 xss.length) := rg1_nat (by omega)
  have hline : ∀ k : Nat, k ≤ 300000 → k ≤ sizeLine := fun k hk => by rw [sizeLine_eq]; omega
  unfold fs__law_exchanges φ__law_exchanges
  simp only [ok_eBin, ok_eUn, ok_eVar, ok_eD, ok_eIf, ok_tVal, ok_tNot, ok_tAnd, ok_tOr, ok_tTrue, ok_aNil, ok_aCons, ok_eTup, ok_eLst, ok_eCallB, ok_eSl, ok_oNone, ok_oSome, ok_eNot, ok_eAnd, ok_eOr, ok_eAl, ok_eCallU, ok_eMth, ok_sSeq, ok_sNx, ok_sBk, ok_sCt, ok_sDrop, ok_sRet, ok_sRetN, ok_sIf, ok_sSet, ok_sPar, ok_sSto, ok_sFor, ok_iE, ok_iRg, ok_eLc, ok_defF, ok_eDisp, ok_eDNew, pair_nil, pair_cons, Turn_nx, Turn_ct, Turn_bk, Turn_rt, List.take_length, startE, List.map_cons, List.map_nil, Nat.reduceSub, List.replicate_succ, List.replicate_zero, List.append_nil, Ok_ok, Ok_bad, Ok_err, Ok_ne, Ok_stl, List.getElem?_cons_zero, List.getElem?_cons_succ, List.set_cons_zero, List.set_cons_succ, Option.some.injEq, exists_eq_left', exists_eq_left, Ev.stl_d, Ev.stl_new, pv_p, pur_p, purs_nil, purs_p, onP_p, ii_int, Option.map_some, Option.bind_some, D.p.injEq, PyData.int.injEq, PyData.bool.injEq, PyData.str.injEq, PyData.tuple.injEq, PyData.list.injEq, Bool.false_eq_true, if_false, if_true, exists_two, and_true, true_and, and_self, dAdd_int, planD_nil, planD_at, planD_df, List.length_cons, List.length_nil, List.nil_append, List.cons_append, Nat.zero_add, Nat.reduceAdd, exists_some2, exists_pair2, Nat.zero_le, le_line1, le_line2, le_line3, le_line4, le_line5, le_line6, le_line7, le_line8, le_line9, le_line10, le_line11, le_line12, wipeE_nil, wipeE_cons, MObj.toP, fin_d, fin_new, Seq_nx, Seq_bk, Seq_ct, Seq_rt, Br_true, Br_false, decide_true, decide_false, Bool.not_true, Bool.not_false, len_tms, hsm]
  refine for_range (fun i ρ M' => ∃ rows R a2 a3 a4 a5 a6 a7, ρ = [some (.p (tms xss)), some (.obj M.length), a2, a3, a4, a5, a6, a7] ∧ M' = M ++ .lst rows :: R ∧ rows.length ≤ i * 1000 ∧ (∀ r ∈ rows, rowOk r) ∧ rows.any badRow = ((xss.take i).any fun xs => xss.any fun ys => exRow xss xs ys)) g.sz ⟨[], [], _, _, _, _, _, _, rfl, rfl, by simp, by simp, by simp⟩ ?_ ?_
  · intro i ρ M' hi hI
    obtain ⟨rows, R, a2, a3, a4, a5, a6, a7, e1, e2, hl, hr, hb⟩ := hI
    subst e1
    subst e2
    have hxs : xss[i]? = some xss[i] := List.getElem?_eq_getElem hi
    generalize hxe : xss[i] = xs at hxs
    have hxm : xs ∈ xss := List.mem_of_getElem? hxs
    simp only [ok_eBin, ok_eUn, ok_eVar, ok_eD, ok_eIf, ok_tVal, ok_tNot, ok_tAnd, ok_tOr, ok_tTrue, ok_aNil, ok_aCons, ok_eTup, ok_eLst, ok_eCallB, ok_eSl, ok_oNone, ok_oSome, ok_eNot, ok_eAnd, ok_eOr, ok_eAl, ok_eCallU, ok_eMth, ok_sSeq, ok_sNx, ok_sBk, ok_sCt, ok_sDrop, ok_sRet, ok_sRetN, ok_sIf, ok_sSet, ok_sPar, ok_sSto, ok_sFor, ok_iE, ok_iRg, ok_eLc, ok_defF, ok_eDisp, ok_eDNew, pair_nil, pair_cons, Turn_nx, Turn_ct, Turn_bk, Turn_rt, List.take_length, startE, List.map_cons, List.map_nil, Nat.reduceSub, List.replicate_succ, List.replicate_zero, List.append_nil, Ok_ok, Ok_bad, Ok_err, Ok_ne, Ok_stl, List.getElem?_cons_zero, List.getElem?_cons_succ, List.set_cons_zero, List.set_cons_succ, Option.some.injEq, exists_eq_left', exists_eq_left, Ev.stl_d, Ev.stl_new, pv_p, pur_p, purs_nil, purs_p, onP_p, ii_int, Option.map_some, Option.bind_some, D.p.injEq, PyData.int.injEq, PyData.bool.injEq, PyData.str.injEq, PyData.tuple.injEq, PyData.list.injEq, Bool.false_eq_true, if_false, if_true, exists_two, and_true, true_and, and_self, dAdd_int, planD_nil, planD_at, planD_df, List.length_cons, List.length_nil, List.nil_append, List.cons_append, Nat.zero_add, Nat.reduceAdd, exists_some2, exists_pair2, Nat.zero_le, le_line1, le_line2, le_line3, le_line4, le_line5, le_line6, le_line7, le_line8, le_line9, le_line10, le_line11, le_line12, wipeE_nil, wipeE_cons, MObj.toP, fin_d, fin_new, Seq_nx, Seq_bk, Seq_ct, Seq_rt, Br_true, Br_false, decide_true, decide_false, Bool.not_true, Bool.not_false, len_tms, hsm]
    refine for_range (fun j ρ M' => ∃ rows' R a3 a4 a5 a6 a7, ρ = [some (.p (tms xss)), some (.obj M.length), some (.p (.int (0 + (i : Int)))), a3, a4, a5, a6, a7] ∧ M' = M ++ .lst rows' :: R ∧ rows'.length ≤ i * 1000 + j * 10 ∧ (∀ r ∈ rows', rowOk r) ∧ rows'.any badRow = (((xss.take i).any fun xs => xss.any fun ys => exRow xss xs ys) || (xss.take j).any fun ys => exRow xss xs ys)) g.sz ⟨rows, R, _, _, _, _, _, rfl, rfl, by omega, hr, by rw [hb]; simp⟩ ?_ ?_
    · intro j ρ M' hj hI
      obtain ⟨rows, R, a3, a4, a5, a6, a7, e1, e2, hl, hr, hb⟩ := hI
      subst e1
      subst e2
      have hys : xss[j]? = some xss[j] := List.getElem?_eq_getElem hj
      generalize hye : xss[j] = ys at hys
      have hym : ys ∈ xss := List.mem_of_getElem? hys
      obtain ⟨x1, x2, x3, _⟩ := g.team xs hxm
      obtain ⟨y1, y2, y3, _⟩ := g.team ys hym
      simp only [ok_eBin, ok_eUn, ok_eVar, ok_eD, ok_eIf, ok_tVal, ok_tNot, ok_tAnd, ok_tOr, ok_tTrue, ok_aNil, ok_aCons, ok_eTup, ok_eLst, ok_eCallB, ok_eSl, ok_oNone, ok_oSome, ok_eNot, ok_eAnd, ok_eOr, ok_eAl, ok_eCallU, ok_eMth, ok_sSeq, ok_sNx, ok_sBk, ok_sCt, ok_sDrop, ok_sRet, ok_sRetN, ok_sIf, ok_sSet, ok_sPar, ok_sSto, ok_sFor, ok_iE, ok_iRg, ok_eLc, ok_defF, ok_eDisp, ok_eDNew, pair_nil, pair_cons, Turn_nx, Turn_ct, Turn_bk, Turn_rt, List.take_length, startE, List.map_cons, List.map_nil, Nat.reduceSub, List.replicate_succ, List.replicate_zero, List.append_nil, Ok_ok, Ok_bad, Ok_err, Ok_ne, Ok_stl, List.getElem?_cons_zero, List.getElem?_cons_succ, List.set_cons_zero, List.set_cons_succ, Option.some.injEq, exists_eq_left', exists_eq_left, Ev.stl_d, Ev.stl_new, pv_p, pur_p, purs_nil, purs_p, onP_p, ii_int, Option.map_some, Option.bind_some, D.p.injEq, PyData.int.injEq, PyData.bool.injEq, PyData.str.injEq, PyData.tuple.injEq, PyData.list.injEq, Bool.false_eq_true, if_false, if_true, exists_two, and_true, true_and, and_self, dAdd_int, planD_nil, planD_at, planD_df, List.length_cons, List.length_nil, List.nil_append, List.cons_append, Nat.zero_add, Nat.reduceAdd, exists_some2, exists_pair2, Nat.zero_le, le_line1, le_line2, le_line3, le_line4, le_line5, le_line6, le_line7, le_line8, le_line9, le_line10, le_line11, le_line12, wipeE_nil, wipeE_cons, MObj.toP, fin_d, fin_new, Seq_nx, Seq_bk, Seq_ct, Seq_rt, Br_true, Br_false, decide_true, decide_false, Bool.not_true, Bool.not_false, Int.zero_add, tms_sub, hxs, iVal_tm]
      refine lc_filter xs .str (fun p => !decide (p ∈ ys)) (g.tz xs hxm) (fun a _ => ?_) (fun a _ => ?_) ?_
      · simp only [ok_eBin, ok_eUn, ok_eVar, ok_eD, ok_eIf, ok_tVal, ok_tNot, ok_tAnd, ok_tOr, ok_tTrue, ok_aNil, ok_aCons, ok_eTup, ok_eLst, ok_eCallB, ok_eSl, ok_oNone, ok_oSome, ok_eNot, ok_eAnd, ok_eOr, ok_eAl, ok_eCallU, ok_eMth, ok_sSeq, ok_sNx, ok_sBk, ok_sCt, ok_sDrop, ok_sRet, ok_sRetN, ok_sIf, ok_sSet, ok_sPar, ok_sSto, ok_sFor, ok_iE, ok_iRg, ok_eLc, ok_defF, ok_eDisp, ok_eDNew, pair_nil, pair_cons, Turn_nx, Turn_ct, Turn_bk, Turn_rt, List.take_length, startE, List.map_cons, List.map_nil, Nat.reduceSub, List.replicate_succ, List.replicate_zero, List.append_nil, Ok_ok, Ok_bad, Ok_err, Ok_ne, Ok_stl, List.getElem?_cons_zero, List.getElem?_cons_succ, List.set_cons_zero, List.set_cons_succ, Option.some.injEq, exists_eq_left', exists_eq_left, Ev.stl_d, Ev.stl_new, pv_p, pur_p, purs_nil, purs_p, onP_p, ii_int, Option.map_some, Option.bind_some, D.p.injEq, PyData.int.injEq, PyData.bool.injEq, PyData.str.injEq, PyData.tuple.injEq, PyData.list.injEq, Bool.false_eq_true, if_false, if_true, exists_two, and_true, true_and, and_self, dAdd_int, planD_nil, planD_at, planD_df, List.length_cons, List.length_nil, List.nil_append, List.cons_append, Nat.zero_add, Nat.reduceAdd, exists_some2, exists_pair2, Nat.zero_le, le_line1, le_line2, le_line3, le_line4, le_line5, le_line6, le_line7, le_line8, le_line9, le_line10, le_line11, le_line12, wipeE_nil, wipeE_cons, MObj.toP, fin_d, fin_new, Seq_nx, Seq_bk, Seq_ct, Seq_rt, Br_true, Br_false, decide_true, decide_false, Bool.not_true, Bool.not_false, tms_sub, hys, nin_tm]
      · simp only [ok_eBin, ok_eUn, ok_eVar, ok_eD, ok_eIf, ok_tVal, ok_tNot, ok_tAnd, ok_tOr, ok_tTrue, ok_aNil, ok_aCons, ok_eTup, ok_eLst, ok_eCallB, ok_eSl, ok_oNone, ok_oSome, ok_eNot, ok_eAnd, ok_eOr, ok_eAl, ok_eCallU, ok_eMth, ok_sSeq, ok_sNx, ok_sBk, ok_sCt, ok_sDrop, ok_sRet, ok_sRetN, ok_sIf, ok_sSet, ok_sPar, ok_sSto, ok_sFor, ok_iE, ok_iRg, ok_eLc, ok_defF, ok_eDisp, ok_eDNew, pair_nil, pair_cons, Turn_nx, Turn_ct, Turn_bk, Turn_rt, List.take_length, startE, List.map_cons, List.map_nil, Nat.reduceSub, List.replicate_succ, List.replicate_zero, List.append_nil, Ok_ok, Ok_bad, Ok_err, Ok_ne, Ok_stl, List.getElem?_cons_zero, List.getElem?_cons_succ, List.set_cons_zero, List.set_cons_succ, Option.some.injEq, exists_eq_left', exists_eq_left, Ev.stl_d, Ev.stl_new, pv_p, pur_p, purs_nil, purs_p, onP_p, ii_int, Option.map_some, Option.bind_some, D.p.injEq, PyData.int.injEq, PyData.bool.injEq, PyData.str.injEq, PyData.tuple.injEq, PyData.list.injEq, Bool.false_eq_true, if_false, if_true, exists_two, and_true, true_and, and_self, dAdd_int, planD_nil, planD_at, planD_df, List.length_cons, List.length_nil, List.nil_append, List.cons_append, Nat.zero_add, Nat.reduceAdd, exists_some2, exists_pair2, Nat.zero_le, le_line1, le_line2, le_line3, le_line4, le_line5, le_line6, le_line7, le_line8, le_line9, le_line10, le_line11, le_line12, wipeE_nil, wipeE_cons, MObj.toP, fin_d, fin_new, Seq_nx, Seq_bk, Seq_ct, Seq_rt, Br_true, Br_false, decide_true, decide_false, Bool.not_true, Bool.not_false]
      simp only [ok_eBin, ok_eUn, ok_eVar, ok_eD, ok_eIf, ok_tVal, ok_tNot, ok_tAnd, ok_tOr, ok_tTrue, ok_aNil, ok_aCons, ok_eTup, ok_eLst, ok_eCallB, ok_eSl, ok_oNone, ok_oSome, ok_eNot, ok_eAnd, ok_eOr, ok_eAl, ok_eCallU, ok_eMth, ok_sSeq, ok_sNx, ok_sBk, ok_sCt, ok_sDrop, ok_sRet, ok_sRetN, ok_sIf, ok_sSet, ok_sPar, ok_sSto, ok_sFor, ok_iE, ok_iRg, ok_eLc, ok_defF, ok_eDisp, ok_eDNew, pair_nil, pair_cons, Turn_nx, Turn_ct, Turn_bk, Turn_rt, List.take_length, startE, List.map_cons, List.map_nil, Nat.reduceSub, List.replicate_succ, List.replicate_zero, List.append_nil, Ok_ok, Ok_bad, Ok_err, Ok_ne, Ok_stl, List.getElem?_cons_zero, List.getElem?_cons_succ, List.set_cons_zero, List.set_cons_succ, Option.some.injEq, exists_eq_left', exists_eq_left, Ev.stl_d, Ev.stl_new, pv_p, pur_p, purs_nil, purs_p, onP_p, ii_int, Option.map_some, Option.bind_some, D.p.injEq, PyData.int.injEq, PyData.bool.injEq, PyData.str.injEq, PyData.tuple.injEq, PyData.list.injEq, Bool.false_eq_true, if_false, if_true, exists_two, and_true, true_and, and_self, dAdd_int, planD_nil, planD_at, planD_df, List.length_cons, List.length_nil, List.nil_append, List.cons_append, Nat.zero_add, Nat.reduceAdd, exists_some2, exists_pair2, Nat.zero_le, le_line1, le_line2, le_line3, le_line4, le_line5, le_line6, le_line7, le_line8, le_line9, le_line10, le_line11, le_line12, wipeE_nil, wipeE_cons, MObj.toP, fin_d, fin_new, Seq_nx, Seq_bk, Seq_ct, Seq_rt, Br_true, Br_false, decide_true, decide_false, Bool.not_true, Bool.not_false, iVal]
      generalize hP : ((xss.take i).any fun xs => xss.any fun ys => exRow xss xs ys) = pv1 at hb
      generalize hP2 : ((xss.take j).any fun ys => exRow xss xs ys) = pv2 at hb
      have nl : (xs.filter fun p => !decide (p ∈ ys)).length ≤ 10 := Nat.le_trans (List.length_filter_le _ _) x2
      refine for_list (fun k ρ M' => ∃ rows' R a4 a5 a6 a7, ρ = [some (.p (tms xss)), some (.obj M.length), some (.p (.int (i : Int))), some (.p (.int (j : Int))), a4, a5, a6, a7] ∧ M' = M ++ .lst rows' :: R ∧ rows'.length ≤ i * 1000 + j * 10 + k ∧ (∀ r ∈ rows', rowOk r) ∧
        rows'.any badRow = ((pv1 || pv2) || ((xs.filter fun p => !decide (p ∈ ys)).take k).any fun p => (far xss xs ys p).isEmpty)) (by rw [List.length_map]; exact hline _ (by omega)) ⟨rows, R, _, _, _, _, rfl, rfl, by omega, hr, by rw [hb]; simp⟩ ?_ ?_
      · intro k x ρ M' hxk hI
        obtain ⟨rows, R, a4, a5, a6, a7, e1, e2, hl, hr, hb⟩ := hI
        subst e1
        subst e2
        rw [List.getElem?_map] at hxk
        obtain ⟨p, hp, e1⟩ := Option.map_eq_some_iff.mp hxk
        subst e1
        have kl := (List.getElem?_eq_some_iff.mp hp).1
        generalize hK : M ++ MObj.lst rows :: R = K
        simp only [ok_eBin, ok_eUn, ok_eVar, ok_eD, ok_eIf, ok_tVal, ok_tNot, ok_tAnd, ok_tOr, ok_tTrue, ok_aNil, ok_aCons, ok_eTup, ok_eLst, ok_eCallB, ok_eSl, ok_oNone, ok_oSome, ok_eNot, ok_eAnd, ok_eOr, ok_eAl, ok_eCallU, ok_eMth, ok_sSeq, ok_sNx, ok_sBk, ok_sCt, ok_sDrop, ok_sRet, ok_sRetN, ok_sIf, ok_sSet, ok_sPar, ok_sSto, ok_sFor, ok_iE, ok_iRg, ok_eLc, ok_defF, ok_eDisp, ok_eDNew, pair_nil, pair_cons, Turn_nx, Turn_ct, Turn_bk, Turn_rt, List.take_length, startE, List.map_cons, List.map_nil, Nat.reduceSub, List.replicate_succ, List.replicate_zero, List.append_nil, Ok_ok, Ok_bad, Ok_err, Ok_ne, Ok_stl, List.getElem?_cons_zero, List.getElem?_cons_succ, List.set_cons_zero, List.set_cons_succ, Option.some.injEq, exists_eq_left', exists_eq_left, Ev.stl_d, Ev.stl_new, pv_p, pur_p, purs_nil, purs_p, onP_p, ii_int, Option.map_some, Option.bind_some, D.p.injEq, PyData.int.injEq, PyData.bool.injEq, PyData.str.injEq, PyData.tuple.injEq, PyData.list.injEq, Bool.false_eq_true, if_false, if_true, exists_two, and_true, true_and, and_self, dAdd_int, planD_nil, planD_at, planD_df, List.length_cons, List.length_nil, List.nil_append, List.cons_append, Nat.zero_add, Nat.reduceAdd, exists_some2, exists_pair2, Nat.zero_le, le_line1, le_line2, le_line3, le_line4, le_line5, le_line6, le_line7, le_line8, le_line9, le_line10, le_line11, le_line12, wipeE_nil, wipeE_cons, MObj.toP, fin_d, fin_new, Seq_nx, Seq_bk, Seq_ct, Seq_rt, Br_true, Br_false, decide_true, decide_false, Bool.not_true, Bool.not_false, tms_sub, hys, iVal_tm]
        refine lc_filter ys .str (fun o => !decide (o ∈ xs)) (g.tz ys hym) (fun a _ => ?_) (fun a _ => ?_) ?_
        · simp only [ok_eBin, ok_eUn, ok_eVar, ok_eD, ok_eIf, ok_tVal, ok_tNot, ok_tAnd, ok_tOr, ok_tTrue, ok_aNil, ok_aCons, ok_eTup, ok_eLst, ok_eCallB, ok_eSl, ok_oNone, ok_oSome, ok_eNot, ok_eAnd, ok_eOr, ok_eAl, ok_eCallU, ok_eMth, ok_sSeq, ok_sNx, ok_sBk, ok_sCt, ok_sDrop, ok_sRet, ok_sRetN, ok_sIf, ok_sSet, ok_sPar, ok_sSto, ok_sFor, ok_iE, ok_iRg, ok_eLc, ok_defF, ok_eDisp, ok_eDNew, pair_nil, pair_cons, Turn_nx, Turn_ct, Turn_bk, Turn_rt, List.take_length, startE, List.map_cons, List.map_nil, Nat.reduceSub, List.replicate_succ, List.replicate_zero, List.append_nil, Ok_ok, Ok_bad, Ok_err, Ok_ne, Ok_stl, List.getElem?_cons_zero, List.getElem?_cons_succ, List.set_cons_zero, List.set_cons_succ, Option.some.injEq, exists_eq_left', exists_eq_left, Ev.stl_d, Ev.stl_new, pv_p, pur_p, purs_nil, purs_p, onP_p, ii_int, Option.map_some, Option.bind_some, D.p.injEq, PyData.int.injEq, PyData.bool.injEq, PyData.str.injEq, PyData.tuple.injEq, PyData.list.injEq, Bool.false_eq_true, if_false, if_true, exists_two, and_true, true_and, and_self, dAdd_int, planD_nil, planD_at, planD_df, List.length_cons, List.length_nil, List.nil_append, List.cons_append, Nat.zero_add, Nat.reduceAdd, exists_some2, exists_pair2, Nat.zero_le, le_line1, le_line2, le_line3, le_line4, le_line5, le_line6, le_line7, le_line8, le_line9, le_line10, le_line11, le_line12, wipeE_nil, wipeE_cons, MObj.toP, fin_d, fin_new, Seq_nx, Seq_bk, Seq_ct, Seq_rt, Br_true, Br_false, decide_true, decide_false, Bool.not_true, Bool.not_false, tms_sub, hxs, nin_tm]
        · simp only [ok_eBin, ok_eUn, ok_eVar, ok_eD, ok_eIf, ok_tVal, ok_tNot, ok_tAnd, ok_tOr, ok_tTrue, ok_aNil, ok_aCons, ok_eTup, ok_eLst, ok_eCallB, ok_eSl, ok_oNone, ok_oSome, ok_eNot, ok_eAnd, ok_eOr, ok_eAl, ok_eCallU, ok_eMth, ok_sSeq, ok_sNx, ok_sBk, ok_sCt, ok_sDrop, ok_sRet, ok_sRetN, ok_sIf, ok_sSet, ok_sPar, ok_sSto, ok_sFor, ok_iE, ok_iRg, ok_eLc, ok_defF, ok_eDisp, ok_eDNew, pair_nil, pair_cons, Turn_nx, Turn_ct, Turn_bk, Turn_rt, List.take_length, startE, List.map_cons, List.map_nil, Nat.reduceSub, List.replicate_succ, List.replicate_zero, List.append_nil, Ok_ok, Ok_bad, Ok_err, Ok_ne, Ok_stl, List.getElem?_cons_zero, List.getElem?_cons_succ, List.set_cons_zero, List.set_cons_succ, Option.some.injEq, exists_eq_left', exists_eq_left, Ev.stl_d, Ev.stl_new, pv_p, pur_p, purs_nil, purs_p, onP_p, ii_int, Option.map_some, Option.bind_some, D.p.injEq, PyData.int.injEq, PyData.bool.injEq, PyData.str.injEq, PyData.tuple.injEq, PyData.list.injEq, Bool.false_eq_true, if_false, if_true, exists_two, and_true, true_and, and_self, dAdd_int, planD_nil, planD_at, planD_df, List.length_cons, List.length_nil, List.nil_append, List.cons_append, Nat.zero_add, Nat.reduceAdd, exists_some2, exists_pair2, Nat.zero_le, le_line1, le_line2, le_line3, le_line4, le_line5, le_line6, le_line7, le_line8, le_line9, le_line10, le_line11, le_line12, wipeE_nil, wipeE_cons, MObj.toP, fin_d, fin_new, Seq_nx, Seq_bk, Seq_ct, Seq_rt, Br_true, Br_false, decide_true, decide_false, Bool.not_true, Bool.not_false]
        have fl : (ys.filter fun o => !decide (o ∈ xs)).length ≤ 10 := Nat.le_trans (List.length_filter_le _ _) y2
        simp only [ok_eBin, ok_eUn, ok_eVar, ok_eD, ok_eIf, ok_tVal, ok_tNot, ok_tAnd, ok_tOr, ok_tTrue, ok_aNil, ok_aCons, ok_eTup, ok_eLst, ok_eCallB, ok_eSl, ok_oNone, ok_oSome, ok_eNot, ok_eAnd, ok_eOr, ok_eAl, ok_eCallU, ok_eMth, ok_sSeq, ok_sNx, ok_sBk, ok_sCt, ok_sDrop, ok_sRet, ok_sRetN, ok_sIf, ok_sSet, ok_sPar, ok_sSto, ok_sFor, ok_iE, ok_iRg, ok_eLc, ok_defF, ok_eDisp, ok_eDNew, pair_nil, pair_cons, Turn_nx, Turn_ct, Turn_bk, Turn_rt, List.take_length, startE, List.map_cons, List.map_nil, Nat.reduceSub, List.replicate_succ, List.replicate_zero, List.append_nil, Ok_ok, Ok_bad, Ok_err, Ok_ne, Ok_stl, List.getElem?_cons_zero, List.getElem?_cons_succ, List.set_cons_zero, List.set_cons_succ, Option.some.injEq, exists_eq_left', exists_eq_left, Ev.stl_d, Ev.stl_new, pv_p, pur_p, purs_nil, purs_p, onP_p, ii_int, Option.map_some, Option.bind_some, D.p.injEq, PyData.int.injEq, PyData.bool.injEq, PyData.str.injEq, PyData.tuple.injEq, PyData.list.injEq, Bool.false_eq_true, if_false, if_true, exists_two, and_true, true_and, and_self, dAdd_int, planD_nil, planD_at, planD_df, List.length_cons, List.length_nil, List.nil_append, List.cons_append, Nat.zero_add, Nat.reduceAdd, exists_some2, exists_pair2, Nat.zero_le, le_line1, le_line2, le_line3, le_line4, le_line5, le_line6, le_line7, le_line8, le_line9, le_line10, le_line11, le_line12, wipeE_nil, wipeE_cons, MObj.toP, fin_d, fin_new, Seq_nx, Seq_bk, Seq_ct, Seq_rt, Br_true, Br_false, decide_true, decide_false, Bool.not_true, Bool.not_false, iVal]
        refine for_list (fun m ρ M' => ∃ a5 a7, ρ = [some (.p (tms xss)), some (.obj M.length), some (.p (.int (i : Int))), some (.p (.int (j : Int))), some (.p (.str p)), a5, some (.obj K.length), a7] ∧
          M' = K ++ [.lst ((((ys.filter fun o => !decide (o ∈ xs)).take m).filter fun o => decide (srt (but xs p ++ [o]) ∈ xss)).map .str)]) (by rw [List.length_map]; exact hline _ (by omega)) ⟨_, _, rfl, rfl⟩ ?_ ?_
        · intro m x ρ M' hxm' hI
          obtain ⟨a5, a7, e1, e2⟩ := hI
          subst e1
          subst e2
          rw [List.getElem?_map] at hxm'
          obtain ⟨o, ho, e1⟩ := Option.map_eq_some_iff.mp hxm'
          subst e1
          have tk : (ys.filter fun o => !decide (o ∈ xs)).take (m + 1) = (ys.filter fun o => !decide (o ∈ xs)).take m ++ [o] := by rw [List.take_add_one, ho]; rfl
          simp only [ok_eBin, ok_eUn, ok_eVar, ok_eD, ok_eIf, ok_tVal, ok_tNot, ok_tAnd, ok_tOr, ok_tTrue, ok_aNil, ok_aCons, ok_eTup, ok_eLst, ok_eCallB, ok_eSl, ok_oNone, ok_oSome, ok_eNot, ok_eAnd, ok_eOr, ok_eAl, ok_eCallU, ok_eMth, ok_sSeq, ok_sNx, ok_sBk, ok_sCt, ok_sDrop, ok_sRet, ok_sRetN, ok_sIf, ok_sSet, ok_sPar, ok_sSto, ok_sFor, ok_iE, ok_iRg, ok_eLc, ok_defF, ok_eDisp, ok_eDNew, pair_nil, pair_cons, Turn_nx, Turn_ct, Turn_bk, Turn_rt, List.take_length, startE, List.map_cons, List.map_nil, Nat.reduceSub, List.replicate_succ, List.replicate_zero, List.append_nil, Ok_ok, Ok_bad, Ok_err, Ok_ne, Ok_stl, List.getElem?_cons_zero, List.getElem?_cons_succ, List.set_cons_zero, List.set_cons_succ, Option.some.injEq, exists_eq_left', exists_eq_left, Ev.stl_d, Ev.stl_new, pv_p, pur_p, purs_nil, purs_p, onP_p, ii_int, Option.map_some, Option.bind_some, D.p.injEq, PyData.int.injEq, PyData.bool.injEq, PyData.str.injEq, PyData.tuple.injEq, PyData.list.injEq, Bool.false_eq_true, if_false, if_true, exists_two, and_true, true_and, and_self, dAdd_int, planD_nil, planD_at, planD_df, List.length_cons, List.length_nil, List.nil_append, List.cons_append, Nat.zero_add, Nat.reduceAdd, exists_some2, exists_pair2, Nat.zero_le, le_line1, le_line2, le_line3, le_line4, le_line5, le_line6, le_line7, le_line8, le_line9, le_line10, le_line11, le_line12, wipeE_nil, wipeE_cons, MObj.toP, fin_d, fin_new, Seq_nx, Seq_bk, Seq_ct, Seq_rt, Br_true, Br_false, decide_true, decide_false, Bool.not_true, Bool.not_false, tms_sub, hxs]
          refine but_ok (g.tz xs hxm) ?_
          simp only [ok_eBin, ok_eUn, ok_eVar, ok_eD, ok_eIf, ok_tVal, ok_tNot, ok_tAnd, ok_tOr, ok_tTrue, ok_aNil, ok_aCons, ok_eTup, ok_eLst, ok_eCallB, ok_eSl, ok_oNone, ok_oSome, ok_eNot, ok_eAnd, ok_eOr, ok_eAl, ok_eCallU, ok_eMth, ok_sSeq, ok_sNx, ok_sBk, ok_sCt, ok_sDrop, ok_sRet, ok_sRetN, ok_sIf, ok_sSet, ok_sPar, ok_sSto, ok_sFor, ok_iE, ok_iRg, ok_eLc, ok_defF, ok_eDisp, ok_eDNew, pair_nil, pair_cons, Turn_nx, Turn_ct, Turn_bk, Turn_rt, List.take_length, startE, List.map_cons, List.map_nil, Nat.reduceSub, List.replicate_succ, List.replicate_zero, List.append_nil, Ok_ok, Ok_bad, Ok_err, Ok_ne, Ok_stl, List.getElem?_cons_zero, List.getElem?_cons_succ, List.set_cons_zero, List.set_cons_succ, Option.some.injEq, exists_eq_left', exists_eq_left, Ev.stl_d, Ev.stl_new, pv_p, pur_p, purs_nil, purs_p, onP_p, ii_int, Option.map_some, Option.bind_some, D.p.injEq, PyData.int.injEq, PyData.bool.injEq, PyData.str.injEq, PyData.tuple.injEq, PyData.list.injEq, Bool.false_eq_true, if_false, if_true, exists_two, and_true, true_and, and_self, dAdd_int, planD_nil, planD_at, planD_df, List.length_cons, List.length_nil, List.nil_append, List.cons_append, Nat.zero_add, Nat.reduceAdd, exists_some2, exists_pair2, Nat.zero_le, le_line1, le_line2, le_line3, le_line4, le_line5, le_line6, le_line7, le_line8, le_line9, le_line10, le_line11, le_line12, wipeE_nil, wipeE_cons, MObj.toP, fin_d, fin_new, Seq_nx, Seq_bk, Seq_ct, Seq_rt, Br_true, Br_false, decide_true, decide_false, Bool.not_true, Bool.not_false, str_in, tm_add (Nat.le_trans (but_len xs p) x2), srt_tm, tup_strs, in_tms]
          refine Br.by (fun e => ?_) fun e => ?_
          · have c1 : ((((ys.filter fun o => !decide (o ∈ xs)).take m).filter fun o => decide (srt (but xs p ++ [o]) ∈ xss)).map PyData.str).length < sizeLine := by
              have h1 := List.length_filter_le (fun o => decide (srt (but xs p ++ [o]) ∈ xss)) ((ys.filter fun o => !decide (o ∈ xs)).take m)
              have h2 := List.length_take_le m (ys.filter fun o => !decide (o ∈ xs))
              have h3 := List.length_take_le' m (ys.filter fun o => !decide (o ∈ xs))
              rw [List.length_map, sizeLine_eq]
              omega
            simp only [ok_eBin, ok_eUn, ok_eVar, ok_eD, ok_eIf, ok_tVal, ok_tNot, ok_tAnd, ok_tOr, ok_tTrue, ok_aNil, ok_aCons, ok_eTup, ok_eLst, ok_eCallB, ok_eSl, ok_oNone, ok_oSome, ok_eNot, ok_eAnd, ok_eOr, ok_eAl, ok_eCallU, ok_eMth, ok_sSeq, ok_sNx, ok_sBk, ok_sCt, ok_sDrop, ok_sRet, ok_sRetN, ok_sIf, ok_sSet, ok_sPar, ok_sSto, ok_sFor, ok_iE, ok_iRg, ok_eLc, ok_defF, ok_eDisp, ok_eDNew, pair_nil, pair_cons, Turn_nx, Turn_ct, Turn_bk, Turn_rt, List.take_length, startE, List.map_cons, List.map_nil, Nat.reduceSub, List.replicate_succ, List.replicate_zero, List.append_nil, Ok_ok, Ok_bad, Ok_err, Ok_ne, Ok_stl, List.getElem?_cons_zero, List.getElem?_cons_succ, List.set_cons_zero, List.set_cons_succ, Option.some.injEq, exists_eq_left', exists_eq_left, Ev.stl_d, Ev.stl_new, pv_p, pur_p, purs_nil, purs_p, onP_p, ii_int, Option.map_some, Option.bind_some, D.p.injEq, PyData.int.injEq, PyData.bool.injEq, PyData.str.injEq, PyData.tuple.injEq, PyData.list.injEq, Bool.false_eq_true, if_false, if_true, exists_two, and_true, true_and, and_self, dAdd_int, planD_nil, planD_at, planD_df, List.length_cons, List.length_nil, List.nil_append, List.cons_append, Nat.zero_add, Nat.reduceAdd, exists_some2, exists_pair2, Nat.zero_le, le_line1, le_line2, le_line3, le_line4, le_line5, le_line6, le_line7, le_line8, le_line9, le_line10, le_line11, le_line12, wipeE_nil, wipeE_cons, MObj.toP, fin_d, fin_new, Seq_nx, Seq_bk, Seq_ct, Seq_rt, Br_true, Br_false, decide_true, decide_false, Bool.not_true, Bool.not_false, kind_obj (at_len K _ []), gm_append, mapp (at_len K _ []) c1, set_len]
            refine ⟨_, _, rfl, ?_⟩
            rw [tk, List.filter_append, show [o].filter (fun o => decide (srt (but xs p ++ [o]) ∈ xss)) = [o] from by simp only [List.filter, e], List.map_append]
            rfl
          · simp only [ok_eBin, ok_eUn, ok_eVar, ok_eD, ok_eIf, ok_tVal, ok_tNot, ok_tAnd, ok_tOr, ok_tTrue, ok_aNil, ok_aCons, ok_eTup, ok_eLst, ok_eCallB, ok_eSl, ok_oNone, ok_oSome, ok_eNot, ok_eAnd, ok_eOr, ok_eAl, ok_eCallU, ok_eMth, ok_sSeq, ok_sNx, ok_sBk, ok_sCt, ok_sDrop, ok_sRet, ok_sRetN, ok_sIf, ok_sSet, ok_sPar, ok_sSto, ok_sFor, ok_iE, ok_iRg, ok_eLc, ok_defF, ok_eDisp, ok_eDNew, pair_nil, pair_cons, Turn_nx, Turn_ct, Turn_bk, Turn_rt, List.take_length, startE, List.map_cons, List.map_nil, Nat.reduceSub, List.replicate_succ, List.replicate_zero, List.append_nil, Ok_ok, Ok_bad, Ok_err, Ok_ne, Ok_stl, List.getElem?_cons_zero, List.getElem?_cons_succ, List.set_cons_zero, List.set_cons_succ, Option.some.injEq, exists_eq_left', exists_eq_left, Ev.stl_d, Ev.stl_new, pv_p, pur_p, purs_nil, purs_p, onP_p, ii_int, Option.map_some, Option.bind_some, D.p.injEq, PyData.int.injEq, PyData.bool.injEq, PyData.str.injEq, PyData.tuple.injEq, PyData.list.injEq, Bool.false_eq_true, if_false, if_true, exists_two, and_true, true_and, and_self, dAdd_int, planD_nil, planD_at, planD_df, List.length_cons, List.length_nil, List.nil_append, List.cons_append, Nat.zero_add, Nat.reduceAdd, exists_some2, exists_pair2, Nat.zero_le, le_line1, le_line2, le_line3, le_line4, le_line5, le_line6, le_line7, le_line8, le_line9, le_line10, le_line11, le_line12, wipeE_nil, wipeE_cons, MObj.toP, fin_d, fin_new, Seq_nx, Seq_bk, Seq_ct, Seq_rt, Br_true, Br_false, decide_true, decide_false, Bool.not_true, Bool.not_false]
            refine ⟨_, _, rfl, ?_⟩
            rw [tk, List.filter_append, show [o].filter (fun o => decide (srt (but xs p ++ [o]) ∈ xss)) = [] from by simp only [List.filter, e], List.append_nil]
        · intro ρ M' hI
          obtain ⟨a5, a7, e1, e2⟩ := hI
          subst e1
          subst e2
          rw [List.length_map, List.take_length]
          have er : K ++ [MObj.dead] = M ++ MObj.lst rows :: (R ++ [.dead]) := by rw [← hK]; simp
          have c2 : rows.length < sizeLine := by rw [sizeLine_eq]; omega
          have c3 : (M ++ MObj.lst rows :: (R ++ [.dead]))[M.length]? = some (.lst rows) := at_len ..
          have c4 : ∀ o : MObj, (K ++ [o])[M.length]? = some (.lst rows) := fun o => by rw [← hK, List.append_assoc]; exact at_len ..
          simp only [ok_eBin, ok_eUn, ok_eVar, ok_eD, ok_eIf, ok_tVal, ok_tNot, ok_tAnd, ok_tOr, ok_tTrue, ok_aNil, ok_aCons, ok_eTup, ok_eLst, ok_eCallB, ok_eSl, ok_oNone, ok_oSome, ok_eNot, ok_eAnd, ok_eOr, ok_eAl, ok_eCallU, ok_eMth, ok_sSeq, ok_sNx, ok_sBk, ok_sCt, ok_sDrop, ok_sRet, ok_sRetN, ok_sIf, ok_sSet, ok_sPar, ok_sSto, ok_sFor, ok_iE, ok_iRg, ok_eLc, ok_defF, ok_eDisp, ok_eDNew, pair_nil, pair_cons, Turn_nx, Turn_ct, Turn_bk, Turn_rt, List.take_length, startE, List.map_cons, List.map_nil, Nat.reduceSub, List.replicate_succ, List.replicate_zero, List.append_nil, Ok_ok, Ok_bad, Ok_err, Ok_ne, Ok_stl, List.getElem?_cons_zero, List.getElem?_cons_succ, List.set_cons_zero, List.set_cons_succ, Option.some.injEq, exists_eq_left', exists_eq_left, Ev.stl_d, Ev.stl_new, pv_p, pur_p, purs_nil, purs_p, onP_p, ii_int, Option.map_some, Option.bind_some, D.p.injEq, PyData.int.injEq, PyData.bool.injEq, PyData.str.injEq, PyData.tuple.injEq, PyData.list.injEq, Bool.false_eq_true, if_false, if_true, exists_two, and_true, true_and, and_self, dAdd_int, planD_nil, planD_at, planD_df, List.length_cons, List.length_nil, List.nil_append, List.cons_append, Nat.zero_add, Nat.reduceAdd, exists_some2, exists_pair2, Nat.zero_le, le_line1, le_line2, le_line3, le_line4, le_line5, le_line6, le_line7, le_line8, le_line9, le_line10, le_line11, le_line12, wipeE_nil, wipeE_cons, MObj.toP, fin_d, fin_new, Seq_nx, Seq_bk, Seq_ct, Seq_rt, Br_true, Br_false, decide_true, decide_false, Bool.not_true, Bool.not_false, kind_obj (c4 _), purs_obj (at_len K _ []), set_len, er, gm_append, mapp c3 c2]
          have ef : ((ys.filter fun o => !decide (o ∈ xs)).filter fun o => decide (srt (but xs p ++ [o]) ∈ xss)) = far xss xs ys p := rfl
          rw [ef]
          have tk : (xs.filter fun q => !decide (q ∈ ys)).take (k + 1) = (xs.filter fun q => !decide (q ∈ ys)).take k ++ [p] := by rw [List.take_add_one, hp]; rfl
          refine ⟨_, _, _, _, _, _, rfl, rfl, ?_, fun r hr2 => ?_, ?_⟩
          · rw [List.length_append, List.length_singleton]; omega
          · rcases List.mem_append.mp hr2 with h1 | h1
            · exact hr r h1
            · rw [List.mem_singleton.mp h1]
              exact ⟨_, _, _, _, rfl⟩
          · rw [List.any_append, hb, tk, List.any_append, Bool.or_assoc, List.any_cons, List.any_nil, Bool.or_false, List.any_cons, List.any_nil, Bool.or_false, badRow_eq]
      · intro ρ M' hI
        obtain ⟨rows, R, a4, a5, a6, a7, e1, e2, hl, hr, hb⟩ := hI
        subst e1
        subst e2
        rw [List.length_map] at hl hb
        rw [List.take_length] at hb
        simp only [ok_eBin, ok_eUn, ok_eVar, ok_eD, ok_eIf, ok_tVal, ok_tNot, ok_tAnd, ok_tOr, ok_tTrue, ok_aNil, ok_aCons, ok_eTup, ok_eLst, ok_eCallB, ok_eSl, ok_oNone, ok_oSome, ok_eNot, ok_eAnd, ok_eOr, ok_eAl, ok_eCallU, ok_eMth, ok_sSeq, ok_sNx, ok_sBk, ok_sCt, ok_sDrop, ok_sRet, ok_sRetN, ok_sIf, ok_sSet, ok_sPar, ok_sSto, ok_sFor, ok_iE, ok_iRg, ok_eLc, ok_defF, ok_eDisp, ok_eDNew, pair_nil, pair_cons, Turn_nx, Turn_ct, Turn_bk, Turn_rt, List.take_length, startE, List.map_cons, List.map_nil, Nat.reduceSub, List.replicate_succ, List.replicate_zero, List.append_nil, Ok_ok, Ok_bad, Ok_err, Ok_ne, Ok_stl, List.getElem?_cons_zero, List.getElem?_cons_succ, List.set_cons_zero, List.set_cons_succ, Option.some.injEq, exists_eq_left', exists_eq_left, Ev.stl_d, Ev.stl_new, pv_p, pur_p, purs_nil, purs_p, onP_p, ii_int, Option.map_some, Option.bind_some, D.p.injEq, PyData.int.injEq, PyData.bool.injEq, PyData.str.injEq, PyData.tuple.injEq, PyData.list.injEq, Bool.false_eq_true, if_false, if_true, exists_two, and_true, true_and, and_self, dAdd_int, planD_nil, planD_at, planD_df, List.length_cons, List.length_nil, List.nil_append, List.cons_append, Nat.zero_add, Nat.reduceAdd, exists_some2, exists_pair2, Nat.zero_le, le_line1, le_line2, le_line3, le_line4, le_line5, le_line6, le_line7, le_line8, le_line9, le_line10, le_line11, le_line12, wipeE_nil, wipeE_cons, MObj.toP, fin_d, fin_new, Seq_nx, Seq_bk, Seq_ct, Seq_rt, Br_true, Br_false, decide_true, decide_false, Bool.not_true, Bool.not_false]
        refine ⟨rows, R, _, _, _, _, _, rfl, rfl, by omega, hr, ?_⟩
        rw [hb, List.take_add_one, hys, List.any_append, hP2, Option.toList_some, List.any_cons, List.any_nil, Bool.or_false, Bool.or_assoc]
        rfl
    · intro ρ M' hI
      obtain ⟨rows, R, a3, a4, a5, a6, a7, e1, e2, hl, hr, hb⟩ := hI
      subst e1
      subst e2
      rw [List.take_length] at hb
      simp only [ok_eBin, ok_eUn, ok_eVar, ok_eD, ok_eIf, ok_tVal, ok_tNot, ok_tAnd, ok_tOr, ok_tTrue, ok_aNil, ok_aCons, ok_eTup, ok_eLst, ok_eCallB, ok_eSl, ok_oNone, ok_oSome, ok_eNot, ok_eAnd, ok_eOr, ok_eAl, ok_eCallU, ok_eMth, ok_sSeq, ok_sNx, ok_sBk, ok_sCt, ok_sDrop, ok_sRet, ok_sRetN, ok_sIf, ok_sSet, ok_sPar, ok_sSto, ok_sFor, ok_iE, ok_iRg, ok_eLc, ok_defF, ok_eDisp, ok_eDNew, pair_nil, pair_cons, Turn_nx, Turn_ct, Turn_bk, Turn_rt, List.take_length, startE, List.map_cons, List.map_nil, Nat.reduceSub, List.replicate_succ, List.replicate_zero, List.append_nil, Ok_ok, Ok_bad, Ok_err, Ok_ne, Ok_stl, List.getElem?_cons_zero, List.getElem?_cons_succ, List.set_cons_zero, List.set_cons_succ, Option.some.injEq, exists_eq_left', exists_eq_left, Ev.stl_d, Ev.stl_new, pv_p, pur_p, purs_nil, purs_p, onP_p, ii_int, Option.map_some, Option.bind_some, D.p.injEq, PyData.int.injEq, PyData.bool.injEq, PyData.str.injEq, PyData.tuple.injEq, PyData.list.injEq, Bool.false_eq_true, if_false, if_true, exists_two, and_true, true_and, and_self, dAdd_int, planD_nil, planD_at, planD_df, List.length_cons, List.length_nil, List.nil_append, List.cons_append, Nat.zero_add, Nat.reduceAdd, exists_some2, exists_pair2, Nat.zero_le, le_line1, le_line2, le_line3, le_line4, le_line5, le_line6, le_line7, le_line8, le_line9, le_line10, le_line11, le_line12, wipeE_nil, wipeE_cons, MObj.toP, fin_d, fin_new, Seq_nx, Seq_bk, Seq_ct, Seq_rt, Br_true, Br_false, decide_true, decide_false, Bool.not_true, Bool.not_false]
      refine ⟨rows, R, _, _, _, _, _, _, rfl, rfl, by omega, hr, ?_⟩
      rw [hb, List.take_add_one, hxs, List.any_append, Option.toList_some, List.any_cons, List.any_nil, Bool.or_false]
  · intro ρ M' hI
    obtain ⟨rows, R, a2, a3, a4, a5, a6, a7, e1, e2, hl, hr, hb⟩ := hI
    subst e1
    subst e2
    rw [List.take_length] at hb
    simp only [ok_eBin, ok_eUn, ok_eVar, ok_eD, ok_eIf, ok_tVal, ok_tNot, ok_tAnd, ok_tOr, ok_tTrue, ok_aNil, ok_aCons, ok_eTup, ok_eLst, ok_eCallB, ok_eSl, ok_oNone, ok_oSome, ok_eNot, ok_eAnd, ok_eOr, ok_eAl, ok_eCallU, ok_eMth, ok_sSeq, ok_sNx, ok_sBk, ok_sCt, ok_sDrop, ok_sRet, ok_sRetN, ok_sIf, ok_sSet, ok_sPar, ok_sSto, ok_sFor, ok_iE, ok_iRg, ok_eLc, ok_defF, ok_eDisp, ok_eDNew, pair_nil, pair_cons, Turn_nx, Turn_ct, Turn_bk, Turn_rt, List.take_length, startE, List.map_cons, List.map_nil, Nat.reduceSub, List.replicate_succ, List.replicate_zero, List.append_nil, Ok_ok, Ok_bad, Ok_err, Ok_ne, Ok_stl, List.getElem?_cons_zero, List.getElem?_cons_succ, List.set_cons_zero, List.set_cons_succ, Option.some.injEq, exists_eq_left', exists_eq_left, Ev.stl_d, Ev.stl_new, pv_p, pur_p, purs_nil, purs_p, onP_p, ii_int, Option.map_some, Option.bind_some, D.p.injEq, PyData.int.injEq, PyData.bool.injEq, PyData.str.injEq, PyData.tuple.injEq, PyData.list.injEq, Bool.false_eq_true, if_false, if_true, exists_two, and_true, true_and, and_self, dAdd_int, planD_nil, planD_at, planD_df, List.length_cons, List.length_nil, List.nil_append, List.cons_append, Nat.zero_add, Nat.reduceAdd, exists_some2, exists_pair2, Nat.zero_le, le_line1, le_line2, le_line3, le_line4, le_line5, le_line6, le_line7, le_line8, le_line9, le_line10, le_line11, le_line12, wipeE_nil, wipeE_cons, MObj.toP, fin_d, fin_new, Seq_nx, Seq_bk, Seq_ct, Seq_rt, Br_true, Br_false, decide_true, decide_false, Bool.not_true, Bool.not_false, fin_obj_new (Nat.lt_irrefl _) (at_len M _ R), take_len]
    exact h rows (hline _ (by omega)) hr hb
end LK49

set_option Elab.async false
set_option linter.all false
set_option maxRecDepth 100000
namespace LK49
open PySem PySem.Spec PyProof.Rows L2 Cb
open PySem.W (Datum DatumOrd Tup)

theorem rowOk_ok {r : P} (h : rowOk r) : r.plain = true ∧ r.depth ≤ 5 := by
  obtain ⟨i, j, s, l, rfl⟩ := h
  have hl : (PyData.list (l.map .str)).plain = true := Datum.plain (α := List Str) l
  have hd : (PyData.list (l.map .str)).depth ≤ 1 := Datum.depth_le (α := List Str) l
  constructor
  · simp only [PyData.plain, PyData.plainAll, Bool.and_true, Bool.true_and]
    simpa [PyData.plain] using hl
  · simp only [PyData.depth, PyData.depthAll] at hd ⊢
    omega
theorem rows_okP {rows : List P} (h : ∀ r ∈ rows, rowOk r) : okP (.list rows) = true := by
  have h1 : PyData.plainAll rows = true := by
    induction rows with
    | nil => rfl
    | cons r rs ih =>
      rw [PyData.plainAll, (rowOk_ok (h r List.mem_cons_self)).1, ih fun r' hr => h r' (List.mem_cons_of_mem _ hr)]
      rfl
  have h2 : PyData.depthAll rows ≤ 5 := by
    clear h1
    induction rows with
    | nil => simp [PyData.depthAll]
    | cons r rs ih =>
      rw [PyData.depthAll]
      exact Nat.max_le.mpr ⟨(rowOk_ok (h r List.mem_cons_self)).2, ih fun r' hr => h r' (List.mem_cons_of_mem _ hr)⟩
  unfold okP
  rw [Bool.and_eq_true, decide_eq_true_eq]
  refine ⟨by simpa [PyData.plain] using h1, ?_⟩
  simp only [PyData.depth]
  omega
theorem eq_nil {xs : List P} (h : okP (.list xs) = true) : gEq (.list xs) (.list []) = some (.bool xs.isEmpty) := by
  have h2 : okP (.list []) = true := okP_toD (α := List Int) (by decide) []
  unfold gEq
  rw [h, h2, Bool.and_self, if_pos rfl]
  cases xs with
  | nil => simp [PyData.eqv, PyData.eqvAll]
  | cons x xs => simp [PyData.eqv, PyData.eqvAll]
theorem eq_strs_nil (l : List Str) : gEq (.list (l.map .str)) (.list []) = some (.bool l.isEmpty) := by
  have z := eq_nil (xs := l.map .str) (okP_toD (α := List Str) (by decide) l)
  rw [z]
  cases l <;> rfl
def lawGood (xss : List (List Str)) : Bool := !(xss.any fun xs => xss.any fun ys => exRow xss xs ys)
theorem law_is_good_ok {xss : List (List Str)} (g : GT xss) {M : Mem} {Q : Ev → Mem → Prop} (h : Q (.d (.p (.bool (lawGood xss)))) M) : Ok (fs__law_is_good [.p (tms xss)] M) Q := by
  unfold fs__law_is_good φ__law_is_good
  simp only [ok_eBin, ok_eUn, ok_eVar, ok_eD, ok_eIf, ok_tVal, ok_tNot, ok_tAnd, ok_tOr, ok_tTrue, ok_aNil, ok_aCons, ok_eTup, ok_eLst, ok_eCallB, ok_eSl, ok_oNone, ok_oSome, ok_eNot, ok_eAnd, ok_eOr, ok_eAl, ok_eCallU, ok_eMth, ok_sSeq, ok_sNx, ok_sBk, ok_sCt, ok_sDrop, ok_sRet, ok_sRetN, ok_sIf, ok_sSet, ok_sPar, ok_sSto, ok_sFor, ok_iE, ok_iRg, ok_eLc, ok_defF, ok_eDisp, ok_eDNew, pair_nil, pair_cons, Turn_nx, Turn_ct, Turn_bk, Turn_rt, List.take_length, startE, List.map_cons, List.map_nil, Nat.reduceSub, List.replicate_succ, List.replicate_zero, List.append_nil, Ok_ok, Ok_bad, Ok_err, Ok_ne, Ok_stl, List.getElem?_cons_zero, List.getElem?_cons_succ, List.set_cons_zero, List.set_cons_succ, Option.some.injEq, exists_eq_left', exists_eq_left, Ev.stl_d, Ev.stl_new, pv_p, pur_p, purs_nil, purs_p, onP_p, ii_int, Option.map_some, Option.bind_some, D.p.injEq, PyData.int.injEq, PyData.bool.injEq, PyData.str.injEq, PyData.tuple.injEq, PyData.list.injEq, Bool.false_eq_true, if_false, if_true, exists_two, and_true, true_and, and_self, dAdd_int, planD_nil, planD_at, planD_df, List.length_cons, List.length_nil, List.nil_append, List.cons_append, Nat.zero_add, Nat.reduceAdd, exists_some2, exists_pair2, Nat.zero_le, le_line1, le_line2, le_line3, le_line4, le_line5, le_line6, le_line7, le_line8, le_line9, le_line10, le_line11, le_line12, wipeE_nil, wipeE_cons, MObj.toP, fin_d, fin_new, Seq_nx, Seq_bk, Seq_ct, Seq_rt, Br_true, Br_false, decide_true, decide_false, Bool.not_true, Bool.not_false]
  refine exchanges_ok g ?_
  intro rows hl hr hb
  have hmap : stL rows = stL (rows.map id) := by rw [List.map_id]
  simp only [ok_eBin, ok_eUn, ok_eVar, ok_eD, ok_eIf, ok_tVal, ok_tNot, ok_tAnd, ok_tOr, ok_tTrue, ok_aNil, ok_aCons, ok_eTup, ok_eLst, ok_eCallB, ok_eSl, ok_oNone, ok_oSome, ok_eNot, ok_eAnd, ok_eOr, ok_eAl, ok_eCallU, ok_eMth, ok_sSeq, ok_sNx, ok_sBk, ok_sCt, ok_sDrop, ok_sRet, ok_sRetN, ok_sIf, ok_sSet, ok_sPar, ok_sSto, ok_sFor, ok_iE, ok_iRg, ok_eLc, ok_defF, ok_eDisp, ok_eDNew, pair_nil, pair_cons, Turn_nx, Turn_ct, Turn_bk, Turn_rt, List.take_length, startE, List.map_cons, List.map_nil, Nat.reduceSub, List.replicate_succ, List.replicate_zero, List.append_nil, Ok_ok, Ok_bad, Ok_err, Ok_ne, Ok_stl, List.getElem?_cons_zero, List.getElem?_cons_succ, List.set_cons_zero, List.set_cons_succ, Option.some.injEq, exists_eq_left', exists_eq_left, Ev.stl_d, Ev.stl_new, pv_p, pur_p, purs_nil, purs_p, onP_p, ii_int, Option.map_some, Option.bind_some, D.p.injEq, PyData.int.injEq, PyData.bool.injEq, PyData.str.injEq, PyData.tuple.injEq, PyData.list.injEq, Bool.false_eq_true, if_false, if_true, exists_two, and_true, true_and, and_self, dAdd_int, planD_nil, planD_at, planD_df, List.length_cons, List.length_nil, List.nil_append, List.cons_append, Nat.zero_add, Nat.reduceAdd, exists_some2, exists_pair2, Nat.zero_le, le_line1, le_line2, le_line3, le_line4, le_line5, le_line6, le_line7, le_line8, le_line9, le_line10, le_line11, le_line12, wipeE_nil, wipeE_cons, MObj.toP, fin_d, fin_new, Seq_nx, Seq_bk, Seq_ct, Seq_rt, Br_true, Br_false, decide_true, decide_false, Bool.not_true, Bool.not_false, iVal, hmap]
  refine lc_filter rows id badRow hl (fun r hr' => ?_) (fun r hr' => ?_) ?_
  · obtain ⟨i, j, s, l, rfl⟩ := hr r hr'
    have e3 : atI [PyData.int i, PyData.int j, PyData.str s, PyData.list (l.map .str)] 3 = some (.list (l.map .str)) := rfl
    simp only [ok_eBin, ok_eUn, ok_eVar, ok_eD, ok_eIf, ok_tVal, ok_tNot, ok_tAnd, ok_tOr, ok_tTrue, ok_aNil, ok_aCons, ok_eTup, ok_eLst, ok_eCallB, ok_eSl, ok_oNone, ok_oSome, ok_eNot, ok_eAnd, ok_eOr, ok_eAl, ok_eCallU, ok_eMth, ok_sSeq, ok_sNx, ok_sBk, ok_sCt, ok_sDrop, ok_sRet, ok_sRetN, ok_sIf, ok_sSet, ok_sPar, ok_sSto, ok_sFor, ok_iE, ok_iRg, ok_eLc, ok_defF, ok_eDisp, ok_eDNew, pair_nil, pair_cons, Turn_nx, Turn_ct, Turn_bk, Turn_rt, List.take_length, startE, List.map_cons, List.map_nil, Nat.reduceSub, List.replicate_succ, List.replicate_zero, List.append_nil, Ok_ok, Ok_bad, Ok_err, Ok_ne, Ok_stl, List.getElem?_cons_zero, List.getElem?_cons_succ, List.set_cons_zero, List.set_cons_succ, Option.some.injEq, exists_eq_left', exists_eq_left, Ev.stl_d, Ev.stl_new, pv_p, pur_p, purs_nil, purs_p, onP_p, ii_int, Option.map_some, Option.bind_some, D.p.injEq, PyData.int.injEq, PyData.bool.injEq, PyData.str.injEq, PyData.tuple.injEq, PyData.list.injEq, Bool.false_eq_true, if_false, if_true, exists_two, and_true, true_and, and_self, dAdd_int, planD_nil, planD_at, planD_df, List.length_cons, List.length_nil, List.nil_append, List.cons_append, Nat.zero_add, Nat.reduceAdd, exists_some2, exists_pair2, Nat.zero_le, le_line1, le_line2, le_line3, le_line4, le_line5, le_line6, le_line7, le_line8, le_line9, le_line10, le_line11, le_line12, wipeE_nil, wipeE_cons, MObj.toP, fin_d, fin_new, Seq_nx, Seq_bk, Seq_ct, Seq_rt, Br_true, Br_false, decide_true, decide_false, Bool.not_true, Bool.not_false, id, sub_tuple, e3, eq_strs_nil, badRow_eq]
  · simp only [ok_eBin, ok_eUn, ok_eVar, ok_eD, ok_eIf, ok_tVal, ok_tNot, ok_tAnd, ok_tOr, ok_tTrue, ok_aNil, ok_aCons, ok_eTup, ok_eLst, ok_eCallB, ok_eSl, ok_oNone, ok_oSome, ok_eNot, ok_eAnd, ok_eOr, ok_eAl, ok_eCallU, ok_eMth, ok_sSeq, ok_sNx, ok_sBk, ok_sCt, ok_sDrop, ok_sRet, ok_sRetN, ok_sIf, ok_sSet, ok_sPar, ok_sSto, ok_sFor, ok_iE, ok_iRg, ok_eLc, ok_defF, ok_eDisp, ok_eDNew, pair_nil, pair_cons, Turn_nx, Turn_ct, Turn_bk, Turn_rt, List.take_length, startE, List.map_cons, List.map_nil, Nat.reduceSub, List.replicate_succ, List.replicate_zero, List.append_nil, Ok_ok, Ok_bad, Ok_err, Ok_ne, Ok_stl, List.getElem?_cons_zero, List.getElem?_cons_succ, List.set_cons_zero, List.set_cons_succ, Option.some.injEq, exists_eq_left', exists_eq_left, Ev.stl_d, Ev.stl_new, pv_p, pur_p, purs_nil, purs_p, onP_p, ii_int, Option.map_some, Option.bind_some, D.p.injEq, PyData.int.injEq, PyData.bool.injEq, PyData.str.injEq, PyData.tuple.injEq, PyData.list.injEq, Bool.false_eq_true, if_false, if_true, exists_two, and_true, true_and, and_self, dAdd_int, planD_nil, planD_at, planD_df, List.length_cons, List.length_nil, List.nil_append, List.cons_append, Nat.zero_add, Nat.reduceAdd, exists_some2, exists_pair2, Nat.zero_le, le_line1, le_line2, le_line3, le_line4, le_line5, le_line6, le_line7, le_line8, le_line9, le_line10, le_line11, le_line12, wipeE_nil, wipeE_cons, MObj.toP, fin_d, fin_new, Seq_nx, Seq_bk, Seq_ct, Seq_rt, Br_true, Br_false, decide_true, decide_false, Bool.not_true, Bool.not_false, id]
  · have ho : okP (.list ((rows.filter badRow).map id)) = true := by
      rw [List.map_id]
      exact rows_okP fun r hr' => hr r (List.mem_filter.mp hr').1
    have e4 : ((rows.filter badRow).map id).isEmpty = lawGood xss := by
      rw [List.map_id]
      unfold lawGood
      rw [← hb]
      cases e : rows.any badRow with
      | false =>
        rw [List.any_eq_false] at e
        rw [List.filter_eq_nil_iff.mpr e]
        rfl
      | true =>
        obtain ⟨r, h1, h2⟩ := List.any_eq_true.mp e
        have : r ∈ rows.filter badRow := List.mem_filter.mpr ⟨h1, h2⟩
        cases e5 : rows.filter badRow with
        | nil => rw [e5] at this; cases this
        | cons _ _ => rfl
    simp only [ok_eBin, ok_eUn, ok_eVar, ok_eD, ok_eIf, ok_tVal, ok_tNot, ok_tAnd, ok_tOr, ok_tTrue, ok_aNil, ok_aCons, ok_eTup, ok_eLst, ok_eCallB, ok_eSl, ok_oNone, ok_oSome, ok_eNot, ok_eAnd, ok_eOr, ok_eAl, ok_eCallU, ok_eMth, ok_sSeq, ok_sNx, ok_sBk, ok_sCt, ok_sDrop, ok_sRet, ok_sRetN, ok_sIf, ok_sSet, ok_sPar, ok_sSto, ok_sFor, ok_iE, ok_iRg, ok_eLc, ok_defF, ok_eDisp, ok_eDNew, pair_nil, pair_cons, Turn_nx, Turn_ct, Turn_bk, Turn_rt, List.take_length, startE, List.map_cons, List.map_nil, Nat.reduceSub, List.replicate_succ, List.replicate_zero, List.append_nil, Ok_ok, Ok_bad, Ok_err, Ok_ne, Ok_stl, List.getElem?_cons_zero, List.getElem?_cons_succ, List.set_cons_zero, List.set_cons_succ, Option.some.injEq, exists_eq_left', exists_eq_left, Ev.stl_d, Ev.stl_new, pv_p, pur_p, purs_nil, purs_p, onP_p, ii_int, Option.map_some, Option.bind_some, D.p.injEq, PyData.int.injEq, PyData.bool.injEq, PyData.str.injEq, PyData.tuple.injEq, PyData.list.injEq, Bool.false_eq_true, if_false, if_true, exists_two, and_true, true_and, and_self, dAdd_int, planD_nil, planD_at, planD_df, List.length_cons, List.length_nil, List.nil_append, List.cons_append, Nat.zero_add, Nat.reduceAdd, exists_some2, exists_pair2, Nat.zero_le, le_line1, le_line2, le_line3, le_line4, le_line5, le_line6, le_line7, le_line8, le_line9, le_line10, le_line11, le_line12, wipeE_nil, wipeE_cons, MObj.toP, fin_d, fin_new, Seq_nx, Seq_bk, Seq_ct, Seq_rt, Br_true, Br_false, decide_true, decide_false, Bool.not_true, Bool.not_false, eq_nil ho, e4]
    exact h
/-! the two answers are one -/
theorem repl_perm {xs : List Str} {p o : Str} (hp : p ∈ xs) (hn : xs.Nodup) : (xs.map fun m => if m = p then o else m).Perm (but xs p ++ [o]) := by
  induction xs with
  | nil => cases hp
  | cons x xs ih =>
    rw [List.nodup_cons] at hn
    by_cases e : x = p
    · subst e
      have e1 : xs.map (fun m => if m = x then o else m) = xs := by
        rw [List.map_congr_left (g := id)]
        · exact List.map_id xs
        · intro m hm
          exact if_neg fun (z : m = x) => hn.1 (z ▸ hm)
      have e2 : but (x :: xs) x = xs := by
        unfold but
        rw [List.filter_cons_of_neg (by simp), List.filter_eq_self]
        intro m hm
        simpa using fun z : m = x => hn.1 (z ▸ hm)
      rw [List.map_cons, if_pos rfl, e1, e2]
      exact (List.perm_append_singleton o xs).symm
    · have hp' : p ∈ xs := by
        rcases List.mem_cons.mp hp with z | z
        · exact absurd z.symm e
        · exact z
      have e2 : but (x :: xs) p = x :: but xs p := by
        unfold but
        rw [List.filter_cons_of_pos (by simpa using e)]
      rw [List.map_cons, if_neg e, e2, List.cons_append]
      exact (ih hp' hn.2).cons x
theorem good_eq {xss : List (List Str)} (g : GT xss) : hasEx xss = lawGood xss := by
  unfold hasEx lawGood exRow
  rw [Bool.eq_iff_iff, Bool.not_eq_true', List.all_eq_true, List.any_eq_false]
  refine forall_congr' fun xs => forall_congr' fun hx => ?_
  rw [List.all_eq_true, Bool.not_eq_true, List.any_eq_false]
  refine forall_congr' fun ys => forall_congr' fun hy => ?_
  rw [List.all_eq_true, Bool.not_eq_true, List.any_eq_false]
  refine forall_congr' fun p => forall_congr' fun hp => ?_
  have hpx : p ∈ xs := (List.mem_filter.mp hp).1
  unfold canRepl far
  rw [List.any_eq_true]
  constructor
  · rintro ⟨o, ho, h2⟩ hemp
    have : o ∈ ((ys.filter fun o => !decide (o ∈ xs)).filter fun o => decide (srt (but xs p ++ [o]) ∈ xss)) := by
      refine List.mem_filter.mpr ⟨ho, ?_⟩
      rw [← srt_eq (repl_perm hpx (g.team xs hx).2.2.1)]
      exact h2
    rw [List.isEmpty_iff.mp hemp] at this
    cases this
  · intro hne
    cases e : ((ys.filter fun o => !decide (o ∈ xs)).filter fun o => decide (srt (but xs p ++ [o]) ∈ xss)) with
    | nil => rw [e] at hne; exact absurd rfl hne
    | cons o r =>
      have : o ∈ ((ys.filter fun o => !decide (o ∈ xs)).filter fun o => decide (srt (but xs p ++ [o]) ∈ xss)) := by rw [e]; exact List.mem_cons_self
      obtain ⟨h1, h2⟩ := List.mem_filter.mp this
      refine ⟨o, h1, ?_⟩
      rw [← srt_eq (repl_perm (o := o) hpx (g.team xs hx).2.2.1)] at h2
      exact h2
theorem is_good_ok {xss : List (List Str)} (g : GT xss) {M : Mem} {Q : Ev → Mem → Prop} (h : Q (.d (.p (.bool (lawGood xss)))) M) : Ok (fs_is_good [.p (tms xss)] M) Q := by
  unfold fs_is_good φ_is_good
  simp only [ok_eBin, ok_eUn, ok_eVar, ok_eD, ok_eIf, ok_tVal, ok_tNot, ok_tAnd, ok_tOr, ok_tTrue, ok_aNil, ok_aCons, ok_eTup, ok_eLst, ok_eCallB, ok_eSl, ok_oNone, ok_oSome, ok_eNot, ok_eAnd, ok_eOr, ok_eAl, ok_eCallU, ok_eMth, ok_sSeq, ok_sNx, ok_sBk, ok_sCt, ok_sDrop, ok_sRet, ok_sRetN, ok_sIf, ok_sSet, ok_sPar, ok_sSto, ok_sFor, ok_iE, ok_iRg, ok_eLc, ok_defF, ok_eDisp, ok_eDNew, pair_nil, pair_cons, Turn_nx, Turn_ct, Turn_bk, Turn_rt, List.take_length, startE, List.map_cons, List.map_nil, Nat.reduceSub, List.replicate_succ, List.replicate_zero, List.append_nil, Ok_ok, Ok_bad, Ok_err, Ok_ne, Ok_stl, List.getElem?_cons_zero, List.getElem?_cons_succ, List.set_cons_zero, List.set_cons_succ, Option.some.injEq, exists_eq_left', exists_eq_left, Ev.stl_d, Ev.stl_new, pv_p, pur_p, purs_nil, purs_p, onP_p, ii_int, Option.map_some, Option.bind_some, D.p.injEq, PyData.int.injEq, PyData.bool.injEq, PyData.str.injEq, PyData.tuple.injEq, PyData.list.injEq, Bool.false_eq_true, if_false, if_true, exists_two, and_true, true_and, and_self, dAdd_int, planD_nil, planD_at, planD_df, List.length_cons, List.length_nil, List.nil_append, List.cons_append, Nat.zero_add, Nat.reduceAdd, exists_some2, exists_pair2, Nat.zero_le, le_line1, le_line2, le_line3, le_line4, le_line5, le_line6, le_line7, le_line8, le_line9, le_line10, le_line11, le_line12, wipeE_nil, wipeE_cons, MObj.toP, fin_d, fin_new, Seq_nx, Seq_bk, Seq_ct, Seq_rt, Br_true, Br_false, decide_true, decide_false, Bool.not_true, Bool.not_false]
  refine has_exchanges_ok g.sz g.tz ?_
  simp only [ok_eBin, ok_eUn, ok_eVar, ok_eD, ok_eIf, ok_tVal, ok_tNot, ok_tAnd, ok_tOr, ok_tTrue, ok_aNil, ok_aCons, ok_eTup, ok_eLst, ok_eCallB, ok_eSl, ok_oNone, ok_oSome, ok_eNot, ok_eAnd, ok_eOr, ok_eAl, ok_eCallU, ok_eMth, ok_sSeq, ok_sNx, ok_sBk, ok_sCt, ok_sDrop, ok_sRet, ok_sRetN, ok_sIf, ok_sSet, ok_sPar, ok_sSto, ok_sFor, ok_iE, ok_iRg, ok_eLc, ok_defF, ok_eDisp, ok_eDNew, pair_nil, pair_cons, Turn_nx, Turn_ct, Turn_bk, Turn_rt, List.take_length, startE, List.map_cons, List.map_nil, Nat.reduceSub, List.replicate_succ, List.replicate_zero, List.append_nil, Ok_ok, Ok_bad, Ok_err, Ok_ne, Ok_stl, List.getElem?_cons_zero, List.getElem?_cons_succ, List.set_cons_zero, List.set_cons_succ, Option.some.injEq, exists_eq_left', exists_eq_left, Ev.stl_d, Ev.stl_new, pv_p, pur_p, purs_nil, purs_p, onP_p, ii_int, Option.map_some, Option.bind_some, D.p.injEq, PyData.int.injEq, PyData.bool.injEq, PyData.str.injEq, PyData.tuple.injEq, PyData.list.injEq, Bool.false_eq_true, if_false, if_true, exists_two, and_true, true_and, and_self, dAdd_int, planD_nil, planD_at, planD_df, List.length_cons, List.length_nil, List.nil_append, List.cons_append, Nat.zero_add, Nat.reduceAdd, exists_some2, exists_pair2, Nat.zero_le, le_line1, le_line2, le_line3, le_line4, le_line5, le_line6, le_line7, le_line8, le_line9, le_line10, le_line11, le_line12, wipeE_nil, wipeE_cons, MObj.toP, fin_d, fin_new, Seq_nx, Seq_bk, Seq_ct, Seq_rt, Br_true, Br_false, decide_true, decide_false, Bool.not_true, Bool.not_false, good_eq g]
  exact h
end LK49

set_option Elab.async false
set_option linter.all false
set_option maxRecDepth 100000
namespace LK49
open PySem PySem.Spec PyProof.Rows L2 Cb
open PySem.W (Datum DatumOrd Tup)

theorem erase_perm {α : Type} : ∀ {l : List α} {k : Nat} (h : k < l.length), (l[k] :: l.eraseIdx k).Perm l
  | x :: l, 0, _ => List.Perm.refl _
  | x :: l, k + 1, h => by
    have := erase_perm (l := l) (k := k) (by simpa using h)
    rw [List.getElem_cons_succ, List.eraseIdx_cons_succ]
    exact (List.Perm.swap _ _ _).trans (this.cons x)
theorem erase_map {α β : Type} (f : α → β) : ∀ (l : List α) (k : Nat), (l.map f).eraseIdx k = (l.eraseIdx k).map f
  | [], _ => rfl
  | x :: l, 0 => rfl
  | x :: l, k + 1 => by
    rw [List.map_cons, List.eraseIdx_cons_succ, List.eraseIdx_cons_succ, List.map_cons, erase_map f l k]
theorem drawF : fs__law_draw = defF 7 drawB := rfl
theorem draw_go {M : Mem} {n b : Nat} {l : Int} {Q : Ev → Mem → Prop} (f : Fd M n b) (hb : b < 1000000) (h0 : 0 < l) (h1 : l < 1073741824)
    (h : ∀ (v : Int) (M' : Mem), 0 ≤ v → v < l → Fd M' n (b + 1) → Mo n M M' → Q (.d (.p (.int v))) M') : Ok (fs__law_draw [.obj n, .p (.int l)] M) Q := by
  rw [drawF]
  refine (draw_ok f (by omega) h0 h1).mono fun e M' h2 => ?_
  obtain ⟨v, e1, h3, h4, h5, h6⟩ := h2
  rw [e1]
  exact h v M' h3 h4 h5 h6
theorem lst_strs (xs : List Str) (M : Mem) : bList [.p (.list (xs.map .str))] M = some (.new (.lst (xs.map .str)), M) := rfl
theorem sample_ok {M : Mem} {n b : Nat} {xs : List Str} {a : Nat} {Q : Ev → Mem → Prop} (f : Fd M n b) (hb : b + a < 1000000) (hx : xs.length ≤ 1000) (ha : a ≤ xs.length)
    (h : ∀ (ys rest : List Str) (M' : Mem), ys.length = a → (ys ++ rest).Perm xs → Fd M' n (b + a) → Mo n M M' → Q (.new (.lst (ys.map .str))) M') : Ok (fs__law_sample [.obj n, .p (.list (xs.map .str)), .p (.int (a : Int))] M) Q := by
  have hr : rg1 [.p (.int (a : Int))] = some (stR 0 a) := rg1_nat (by omega)
  unfold fs__law_sample φ__law_sample
  simp only [ok_eBin, ok_eUn, ok_eVar, ok_eD, ok_eIf, ok_tVal, ok_tNot, ok_tAnd, ok_tOr, ok_tTrue, ok_aNil, ok_aCons, ok_eTup, ok_eLst, ok_eCallB, ok_eSl, ok_oNone, ok_oSome, ok_eNot, ok_eAnd, ok_eOr, ok_eAl, ok_eCallU, ok_eMth, ok_sSeq, ok_sNx, ok_sBk, ok_sCt, ok_sDrop, ok_sRet, ok_sRetN, ok_sIf, ok_sSet, ok_sPar, ok_sSto, ok_sFor, ok_iE, ok_iRg, ok_eLc, ok_defF, ok_eDisp, ok_eDNew, pair_nil, pair_cons, Turn_nx, Turn_ct, Turn_bk, Turn_rt, List.take_length, startE, List.map_cons, List.map_nil, Nat.reduceSub, List.replicate_succ, List.replicate_zero, List.append_nil, Ok_ok, Ok_bad, Ok_err, Ok_ne, Ok_stl, List.getElem?_cons_zero, List.getElem?_cons_succ, List.set_cons_zero, List.set_cons_succ, Option.some.injEq, exists_eq_left', exists_eq_left, Ev.stl_d, Ev.stl_new, pv_p, pur_p, purs_nil, purs_p, onP_p, ii_int, Option.map_some, Option.bind_some, D.p.injEq, PyData.int.injEq, PyData.bool.injEq, PyData.str.injEq, PyData.tuple.injEq, PyData.list.injEq, Bool.false_eq_true, if_false, if_true, exists_two, and_true, true_and, and_self, dAdd_int, planD_nil, planD_at, planD_df, List.length_cons, List.length_nil, List.nil_append, List.cons_append, Nat.zero_add, Nat.reduceAdd, exists_some2, exists_pair2, Nat.zero_le, le_line1, le_line2, le_line3, le_line4, le_line5, le_line6, le_line7, le_line8, le_line9, le_line10, le_line11, le_line12, wipeE_nil, wipeE_cons, MObj.toP, fin_d, fin_new, Seq_nx, Seq_bk, Seq_ct, Seq_rt, Br_true, Br_false, decide_true, decide_false, Bool.not_true, Bool.not_false, lst_strs, hr]
  refine lc_ok a (fun i acc M' => ∃ ys rest M0, acc = ys.map PyData.str ∧ (ys ++ rest).Perm xs ∧ ys.length = i ∧ M' = M0 ++ [.lst (rest.map .str)] ∧ Fd M0 n (b + i) ∧ Mo n M M0) (by rw [sizeLine_eq]; omega) ⟨[], xs, M, rfl, List.Perm.refl _, rfl, rfl, f, .refl⟩ ?_ ?_
  · intro i acc M' hi hI _
    obtain ⟨ys, rest, M0, e1, hp, hl, e2, fd, mo⟩ := hI
    subst e1
    subst e2
    have hlen : ys.length + rest.length = xs.length := by rw [← List.length_append, hp.length_eq]
    have hn : n < M0.length := fd.lt
    have kl : M.length = M0.length := mo.1.symm
    refine ⟨_, _, stR_at hi, rfl, ?_⟩
    simp only [ok_eBin, ok_eUn, ok_eVar, ok_eD, ok_eIf, ok_tVal, ok_tNot, ok_tAnd, ok_tOr, ok_tTrue, ok_aNil, ok_aCons, ok_eTup, ok_eLst, ok_eCallB, ok_eSl, ok_oNone, ok_oSome, ok_eNot, ok_eAnd, ok_eOr, ok_eAl, ok_eCallU, ok_eMth, ok_sSeq, ok_sNx, ok_sBk, ok_sCt, ok_sDrop, ok_sRet, ok_sRetN, ok_sIf, ok_sSet, ok_sPar, ok_sSto, ok_sFor, ok_iE, ok_iRg, ok_eLc, ok_defF, ok_eDisp, ok_eDNew, pair_nil, pair_cons, Turn_nx, Turn_ct, Turn_bk, Turn_rt, List.take_length, startE, List.map_cons, List.map_nil, Nat.reduceSub, List.replicate_succ, List.replicate_zero, List.append_nil, Ok_ok, Ok_bad, Ok_err, Ok_ne, Ok_stl, List.getElem?_cons_zero, List.getElem?_cons_succ, List.set_cons_zero, List.set_cons_succ, Option.some.injEq, exists_eq_left', exists_eq_left, Ev.stl_d, Ev.stl_new, pv_p, pur_p, purs_nil, purs_p, onP_p, ii_int, Option.map_some, Option.bind_some, D.p.injEq, PyData.int.injEq, PyData.bool.injEq, PyData.str.injEq, PyData.tuple.injEq, PyData.list.injEq, Bool.false_eq_true, if_false, if_true, exists_two, and_true, true_and, and_self, dAdd_int, planD_nil, planD_at, planD_df, List.length_cons, List.length_nil, List.nil_append, List.cons_append, Nat.zero_add, Nat.reduceAdd, exists_some2, exists_pair2, Nat.zero_le, le_line1, le_line2, le_line3, le_line4, le_line5, le_line6, le_line7, le_line8, le_line9, le_line10, le_line11, le_line12, wipeE_nil, wipeE_cons, MObj.toP, fin_d, fin_new, Seq_nx, Seq_bk, Seq_ct, Seq_rt, Br_true, Br_false, decide_true, decide_false, Bool.not_true, Bool.not_false, kl, kind_obj (at_len M0 _ []), gm_pop, len_obj (at_len M0 _ []), List.length_map]
    refine draw_go fd.app (by omega) (by omega) (by omega) fun v M1 h0 h1 fd1 mo1 => ?_
    obtain ⟨M2, e3, mo2, fd2⟩ := mo1.split hn fd1
    subst e3
    obtain ⟨k, ek⟩ := Int.eq_ofNat_of_zero_le h0
    have hk : k < rest.length := by omega
    have ey : (rest.map PyData.str)[k]? = some (.str rest[k]) := by rw [List.getElem?_map, List.getElem?_eq_getElem hk]; rfl
    have kl2 : M0.length = M2.length := mo2.1.symm
    simp only [ok_eBin, ok_eUn, ok_eVar, ok_eD, ok_eIf, ok_tVal, ok_tNot, ok_tAnd, ok_tOr, ok_tTrue, ok_aNil, ok_aCons, ok_eTup, ok_eLst, ok_eCallB, ok_eSl, ok_oNone, ok_oSome, ok_eNot, ok_eAnd, ok_eOr, ok_eAl, ok_eCallU, ok_eMth, ok_sSeq, ok_sNx, ok_sBk, ok_sCt, ok_sDrop, ok_sRet, ok_sRetN, ok_sIf, ok_sSet, ok_sPar, ok_sSto, ok_sFor, ok_iE, ok_iRg, ok_eLc, ok_defF, ok_eDisp, ok_eDNew, pair_nil, pair_cons, Turn_nx, Turn_ct, Turn_bk, Turn_rt, List.take_length, startE, List.map_cons, List.map_nil, Nat.reduceSub, List.replicate_succ, List.replicate_zero, List.append_nil, Ok_ok, Ok_bad, Ok_err, Ok_ne, Ok_stl, List.getElem?_cons_zero, List.getElem?_cons_succ, List.set_cons_zero, List.set_cons_succ, Option.some.injEq, exists_eq_left', exists_eq_left, Ev.stl_d, Ev.stl_new, pv_p, pur_p, purs_nil, purs_p, onP_p, ii_int, Option.map_some, Option.bind_some, D.p.injEq, PyData.int.injEq, PyData.bool.injEq, PyData.str.injEq, PyData.tuple.injEq, PyData.list.injEq, Bool.false_eq_true, if_false, if_true, exists_two, and_true, true_and, and_self, dAdd_int, planD_nil, planD_at, planD_df, List.length_cons, List.length_nil, List.nil_append, List.cons_append, Nat.zero_add, Nat.reduceAdd, exists_some2, exists_pair2, Nat.zero_le, le_line1, le_line2, le_line3, le_line4, le_line5, le_line6, le_line7, le_line8, le_line9, le_line10, le_line11, le_line12, wipeE_nil, wipeE_cons, MObj.toP, fin_d, fin_new, Seq_nx, Seq_bk, Seq_ct, Seq_rt, Br_true, Br_false, decide_true, decide_false, Bool.not_true, Bool.not_false, kl2, mpop (at_len M2 _ []) ek (by rw [sizeLine_eq]; omega) ey, set_len]
    refine ⟨ys ++ [rest[k]], rest.eraseIdx k, M2, by simp, ?_, by simp [hl], ?_, fd2, mo.trans mo2⟩
    · have p1 : (rest[k] :: rest.eraseIdx k).Perm rest := erase_perm hk
      rw [List.append_assoc]
      exact (p1.append_left ys).trans hp
    · rw [erase_map]
  · intro acc M' hI _
    obtain ⟨ys, rest, M0, e1, hp, hl, e2, fd, mo⟩ := hI
    subst e1
    subst e2
    refine ⟨stR_end, ?_⟩
    have kl : M.length = M0.length := mo.1.symm
    simp only [ok_eBin, ok_eUn, ok_eVar, ok_eD, ok_eIf, ok_tVal, ok_tNot, ok_tAnd, ok_tOr, ok_tTrue, ok_aNil, ok_aCons, ok_eTup, ok_eLst, ok_eCallB, ok_eSl, ok_oNone, ok_oSome, ok_eNot, ok_eAnd, ok_eOr, ok_eAl, ok_eCallU, ok_eMth, ok_sSeq, ok_sNx, ok_sBk, ok_sCt, ok_sDrop, ok_sRet, ok_sRetN, ok_sIf, ok_sSet, ok_sPar, ok_sSto, ok_sFor, ok_iE, ok_iRg, ok_eLc, ok_defF, ok_eDisp, ok_eDNew, pair_nil, pair_cons, Turn_nx, Turn_ct, Turn_bk, Turn_rt, List.take_length, startE, List.map_cons, List.map_nil, Nat.reduceSub, List.replicate_succ, List.replicate_zero, List.append_nil, Ok_ok, Ok_bad, Ok_err, Ok_ne, Ok_stl, List.getElem?_cons_zero, List.getElem?_cons_succ, List.set_cons_zero, List.set_cons_succ, Option.some.injEq, exists_eq_left', exists_eq_left, Ev.stl_d, Ev.stl_new, pv_p, pur_p, purs_nil, purs_p, onP_p, ii_int, Option.map_some, Option.bind_some, D.p.injEq, PyData.int.injEq, PyData.bool.injEq, PyData.str.injEq, PyData.tuple.injEq, PyData.list.injEq, Bool.false_eq_true, if_false, if_true, exists_two, and_true, true_and, and_self, dAdd_int, planD_nil, planD_at, planD_df, List.length_cons, List.length_nil, List.nil_append, List.cons_append, Nat.zero_add, Nat.reduceAdd, exists_some2, exists_pair2, Nat.zero_le, le_line1, le_line2, le_line3, le_line4, le_line5, le_line6, le_line7, le_line8, le_line9, le_line10, le_line11, le_line12, wipeE_nil, wipeE_cons, MObj.toP, fin_d, fin_new, Seq_nx, Seq_bk, Seq_ct, Seq_rt, Br_true, Br_false, decide_true, decide_false, Bool.not_true, Bool.not_false, kl, take_len]
    exact h ys rest M0 hl hp fd mo
end LK49

set_option Elab.async false
set_option linter.all false
set_option maxRecDepth 100000
namespace LK49
open PySem PySem.Spec PyProof.Rows L2 Cb
open PySem.W (Datum DatumOrd Tup)

theorem okP_tms (zs : List (List Str)) : okP (.list (zs.map tm)) = true := by
  rw [map_tm]
  exact okP_toD (α := List (Tup Str)) (by decide) (zs.map mkT)
def within (xs ys : List Str) : Bool := (xs.filter fun x => !decide (x ∈ ys)).isEmpty
theorem is_within_ok {xs ys : List Str} {M : Mem} {Q : Ev → Mem → Prop} (hx : xs.length ≤ sizeLine) (h : Q (.d (.p (.bool (within xs ys)))) M) : Ok (fs__law_is_within [.p (tm xs), .p (tm ys)] M) Q := by
  unfold fs__law_is_within φ__law_is_within
  simp only [ok_eBin, ok_eUn, ok_eVar, ok_eD, ok_eIf, ok_tVal, ok_tNot, ok_tAnd, ok_tOr, ok_tTrue, ok_aNil, ok_aCons, ok_eTup, ok_eLst, ok_eCallB, ok_eSl, ok_oNone, ok_oSome, ok_eNot, ok_eAnd, ok_eOr, ok_eAl, ok_eCallU, ok_eMth, ok_sSeq, ok_sNx, ok_sBk, ok_sCt, ok_sDrop, ok_sRet, ok_sRetN, ok_sIf, ok_sSet, ok_sPar, ok_sSto, ok_sFor, ok_iE, ok_iRg, ok_eLc, ok_defF, ok_eDisp, ok_eDNew, pair_nil, pair_cons, Turn_nx, Turn_ct, Turn_bk, Turn_rt, List.take_length, startE, List.map_cons, List.map_nil, Nat.reduceSub, List.replicate_succ, List.replicate_zero, List.append_nil, Ok_ok, Ok_bad, Ok_err, Ok_ne, Ok_stl, List.getElem?_cons_zero, List.getElem?_cons_succ, List.set_cons_zero, List.set_cons_succ, Option.some.injEq, exists_eq_left', exists_eq_left, Ev.stl_d, Ev.stl_new, pv_p, pur_p, purs_nil, purs_p, onP_p, ii_int, Option.map_some, Option.bind_some, D.p.injEq, PyData.int.injEq, PyData.bool.injEq, PyData.str.injEq, PyData.tuple.injEq, PyData.list.injEq, Bool.false_eq_true, if_false, if_true, exists_two, and_true, true_and, and_self, dAdd_int, planD_nil, planD_at, planD_df, List.length_cons, List.length_nil, List.nil_append, List.cons_append, Nat.zero_add, Nat.reduceAdd, exists_some2, exists_pair2, Nat.zero_le, le_line1, le_line2, le_line3, le_line4, le_line5, le_line6, le_line7, le_line8, le_line9, le_line10, le_line11, le_line12, wipeE_nil, wipeE_cons, MObj.toP, fin_d, fin_new, Seq_nx, Seq_bk, Seq_ct, Seq_rt, Br_true, Br_false, decide_true, decide_false, Bool.not_true, Bool.not_false, iVal_tm]
  refine lc_filter xs .str (fun x => !decide (x ∈ ys)) hx (fun a _ => ?_) (fun a _ => ?_) ?_
  · simp only [ok_eBin, ok_eUn, ok_eVar, ok_eD, ok_eIf, ok_tVal, ok_tNot, ok_tAnd, ok_tOr, ok_tTrue, ok_aNil, ok_aCons, ok_eTup, ok_eLst, ok_eCallB, ok_eSl, ok_oNone, ok_oSome, ok_eNot, ok_eAnd, ok_eOr, ok_eAl, ok_eCallU, ok_eMth, ok_sSeq, ok_sNx, ok_sBk, ok_sCt, ok_sDrop, ok_sRet, ok_sRetN, ok_sIf, ok_sSet, ok_sPar, ok_sSto, ok_sFor, ok_iE, ok_iRg, ok_eLc, ok_defF, ok_eDisp, ok_eDNew, pair_nil, pair_cons, Turn_nx, Turn_ct, Turn_bk, Turn_rt, List.take_length, startE, List.map_cons, List.map_nil, Nat.reduceSub, List.replicate_succ, List.replicate_zero, List.append_nil, Ok_ok, Ok_bad, Ok_err, Ok_ne, Ok_stl, List.getElem?_cons_zero, List.getElem?_cons_succ, List.set_cons_zero, List.set_cons_succ, Option.some.injEq, exists_eq_left', exists_eq_left, Ev.stl_d, Ev.stl_new, pv_p, pur_p, purs_nil, purs_p, onP_p, ii_int, Option.map_some, Option.bind_some, D.p.injEq, PyData.int.injEq, PyData.bool.injEq, PyData.str.injEq, PyData.tuple.injEq, PyData.list.injEq, Bool.false_eq_true, if_false, if_true, exists_two, and_true, true_and, and_self, dAdd_int, planD_nil, planD_at, planD_df, List.length_cons, List.length_nil, List.nil_append, List.cons_append, Nat.zero_add, Nat.reduceAdd, exists_some2, exists_pair2, Nat.zero_le, le_line1, le_line2, le_line3, le_line4, le_line5, le_line6, le_line7, le_line8, le_line9, le_line10, le_line11, le_line12, wipeE_nil, wipeE_cons, MObj.toP, fin_d, fin_new, Seq_nx, Seq_bk, Seq_ct, Seq_rt, Br_true, Br_false, decide_true, decide_false, Bool.not_true, Bool.not_false, nin_tm]
  · simp only [ok_eBin, ok_eUn, ok_eVar, ok_eD, ok_eIf, ok_tVal, ok_tNot, ok_tAnd, ok_tOr, ok_tTrue, ok_aNil, ok_aCons, ok_eTup, ok_eLst, ok_eCallB, ok_eSl, ok_oNone, ok_oSome, ok_eNot, ok_eAnd, ok_eOr, ok_eAl, ok_eCallU, ok_eMth, ok_sSeq, ok_sNx, ok_sBk, ok_sCt, ok_sDrop, ok_sRet, ok_sRetN, ok_sIf, ok_sSet, ok_sPar, ok_sSto, ok_sFor, ok_iE, ok_iRg, ok_eLc, ok_defF, ok_eDisp, ok_eDNew, pair_nil, pair_cons, Turn_nx, Turn_ct, Turn_bk, Turn_rt, List.take_length, startE, List.map_cons, List.map_nil, Nat.reduceSub, List.replicate_succ, List.replicate_zero, List.append_nil, Ok_ok, Ok_bad, Ok_err, Ok_ne, Ok_stl, List.getElem?_cons_zero, List.getElem?_cons_succ, List.set_cons_zero, List.set_cons_succ, Option.some.injEq, exists_eq_left', exists_eq_left, Ev.stl_d, Ev.stl_new, pv_p, pur_p, purs_nil, purs_p, onP_p, ii_int, Option.map_some, Option.bind_some, D.p.injEq, PyData.int.injEq, PyData.bool.injEq, PyData.str.injEq, PyData.tuple.injEq, PyData.list.injEq, Bool.false_eq_true, if_false, if_true, exists_two, and_true, true_and, and_self, dAdd_int, planD_nil, planD_at, planD_df, List.length_cons, List.length_nil, List.nil_append, List.cons_append, Nat.zero_add, Nat.reduceAdd, exists_some2, exists_pair2, Nat.zero_le, le_line1, le_line2, le_line3, le_line4, le_line5, le_line6, le_line7, le_line8, le_line9, le_line10, le_line11, le_line12, wipeE_nil, wipeE_cons, MObj.toP, fin_d, fin_new, Seq_nx, Seq_bk, Seq_ct, Seq_rt, Br_true, Br_false, decide_true, decide_false, Bool.not_true, Bool.not_false]
  · simp only [ok_eBin, ok_eUn, ok_eVar, ok_eD, ok_eIf, ok_tVal, ok_tNot, ok_tAnd, ok_tOr, ok_tTrue, ok_aNil, ok_aCons, ok_eTup, ok_eLst, ok_eCallB, ok_eSl, ok_oNone, ok_oSome, ok_eNot, ok_eAnd, ok_eOr, ok_eAl, ok_eCallU, ok_eMth, ok_sSeq, ok_sNx, ok_sBk, ok_sCt, ok_sDrop, ok_sRet, ok_sRetN, ok_sIf, ok_sSet, ok_sPar, ok_sSto, ok_sFor, ok_iE, ok_iRg, ok_eLc, ok_defF, ok_eDisp, ok_eDNew, pair_nil, pair_cons, Turn_nx, Turn_ct, Turn_bk, Turn_rt, List.take_length, startE, List.map_cons, List.map_nil, Nat.reduceSub, List.replicate_succ, List.replicate_zero, List.append_nil, Ok_ok, Ok_bad, Ok_err, Ok_ne, Ok_stl, List.getElem?_cons_zero, List.getElem?_cons_succ, List.set_cons_zero, List.set_cons_succ, Option.some.injEq, exists_eq_left', exists_eq_left, Ev.stl_d, Ev.stl_new, pv_p, pur_p, purs_nil, purs_p, onP_p, ii_int, Option.map_some, Option.bind_some, D.p.injEq, PyData.int.injEq, PyData.bool.injEq, PyData.str.injEq, PyData.tuple.injEq, PyData.list.injEq, Bool.false_eq_true, if_false, if_true, exists_two, and_true, true_and, and_self, dAdd_int, planD_nil, planD_at, planD_df, List.length_cons, List.length_nil, List.nil_append, List.cons_append, Nat.zero_add, Nat.reduceAdd, exists_some2, exists_pair2, Nat.zero_le, le_line1, le_line2, le_line3, le_line4, le_line5, le_line6, le_line7, le_line8, le_line9, le_line10, le_line11, le_line12, wipeE_nil, wipeE_cons, MObj.toP, fin_d, fin_new, Seq_nx, Seq_bk, Seq_ct, Seq_rt, Br_true, Br_false, decide_true, decide_false, Bool.not_true, Bool.not_false, eq_strs_nil]
    exact h
theorem max_int (i j : Int) (M : Mem) : bMax [.p (.int i), .p (.int j)] M = some (.d (.p (.int (if j > i then j else i))), M) := rfl
theorem min_int (i j : Int) (M : Mem) : bMin [.p (.int i), .p (.int j)] M = some (.d (.p (.int (if j < i then j else i))), M) := rfl
theorem neg_int (i : Int) (M : Mem) : dNeg (.p (.int i)) M = some (.d (.p (.int (-i)))) := rfl
theorem pick5 {v : Int} (h0 : 0 ≤ v) (h1 : v < 5) : ∃ w : Int, 1 ≤ w ∧ w ≤ 3 ∧ atI [PyData.int 2, .int 2, .int 2, .int 1, .int 3] v = some (.int w) := by
  have : v = 0 ∨ v = 1 ∨ v = 2 ∨ v = 3 ∨ v = 4 := by omega
  rcases this with rfl | rfl | rfl | rfl | rfl
  · exact ⟨2, by decide, by decide, rfl⟩
  · exact ⟨2, by decide, by decide, rfl⟩
  · exact ⟨2, by decide, by decide, rfl⟩
  · exact ⟨1, by decide, by decide, rfl⟩
  · exact ⟨3, by decide, by decide, rfl⟩
theorem pick5b {v : Int} (h0 : 0 ≤ v) (h1 : v < 5) : ∃ w : Int, -1 ≤ w ∧ w ≤ 1 ∧ atI [PyData.int 0, .int 0, .int 0, .int 1, .int (-1)] v = some (.int w) := by
  have : v = 0 ∨ v = 1 ∨ v = 2 ∨ v = 3 ∨ v = 4 := by omega
  rcases this with rfl | rfl | rfl | rfl | rfl
  · exact ⟨0, by decide, by decide, rfl⟩
  · exact ⟨0, by decide, by decide, rfl⟩
  · exact ⟨0, by decide, by decide, rfl⟩
  · exact ⟨1, by decide, by decide, rfl⟩
  · exact ⟨-1, by decide, by decide, rfl⟩
theorem NM_nodup : NM.Nodup := by decide
theorem nodup_of {ys rest xs : List Str} (h : (ys ++ rest).Perm xs) (hn : xs.Nodup) : ys.Nodup ∧ ∀ y ∈ ys, y ∈ xs :=
  ⟨(List.nodup_append.mp (h.nodup_iff.mpr hn)).1, fun y hy => h.mem_iff.mp (List.mem_append_left _ hy)⟩
theorem GT.srt {xss : List (List Str)} (g : GT xss) : GT (srtT xss) := ⟨by rw [(srtT_perm xss).length_eq]; exact g.few, fun xs h => g.team xs ((srtT_perm xss).mem_iff.mp h)⟩
theorem NMlist : PyData.list [.str "a", .str "b", .str "c", .str "d", .str "ed", .str "zzzzzzzz"] = .list (NM.map .str) := rfl
set_option maxHeartbeats 1000000 in
theorem make_teams_ok {M : Mem} {n b : Nat} {Q : Ev → Mem → Prop} (f : Fd M n b) (hb : b < 900000)
    (h : ∀ (xss : List (List Str)) (M' : Mem), GT xss → xss ≠ [] → Fd M' n (b + 100) → Mo n M M' → Q (.d (.p (tms xss))) M') : Ok (fs__law_make_teams [.obj n, .p (.int 5)] M) Q := by
  unfold fs__law_make_teams φ__law_make_teams
  simp only [ok_eBin, ok_eUn, ok_eVar, ok_eD, ok_eIf, ok_tVal, ok_tNot, ok_tAnd, ok_tOr, ok_tTrue, ok_aNil, ok_aCons, ok_eTup, ok_eLst, ok_eCallB, ok_eSl, ok_oNone, ok_oSome, ok_eNot, ok_eAnd, ok_eOr, ok_eAl, ok_eCallU, ok_eMth, ok_sSeq, ok_sNx, ok_sBk, ok_sCt, ok_sDrop, ok_sRet, ok_sRetN, ok_sIf, ok_sSet, ok_sPar, ok_sSto, ok_sFor, ok_iE, ok_iRg, ok_eLc, ok_defF, ok_eDisp, ok_eDNew, pair_nil, pair_cons, Turn_nx, Turn_ct, Turn_bk, Turn_rt, List.take_length, startE, List.map_cons, List.map_nil, Nat.reduceSub, List.replicate_succ, List.replicate_zero, List.append_nil, Ok_ok, Ok_bad, Ok_err, Ok_ne, Ok_stl, List.getElem?_cons_zero, List.getElem?_cons_succ, List.set_cons_zero, List.set_cons_succ, Option.some.injEq, exists_eq_left', exists_eq_left, Ev.stl_d, Ev.stl_new, pv_p, pur_p, purs_nil, purs_p, onP_p, ii_int, Option.map_some, Option.bind_some, D.p.injEq, PyData.int.injEq, PyData.bool.injEq, PyData.str.injEq, PyData.tuple.injEq, PyData.list.injEq, Bool.false_eq_true, if_false, if_true, exists_two, and_true, true_and, and_self, dAdd_int, planD_nil, planD_at, planD_df, List.length_cons, List.length_nil, List.nil_append, List.cons_append, Nat.zero_add, Nat.reduceAdd, exists_some2, exists_pair2, Nat.zero_le, le_line1, le_line2, le_line3, le_line4, le_line5, le_line6, le_line7, le_line8, le_line9, le_line10, le_line11, le_line12, wipeE_nil, wipeE_cons, MObj.toP, fin_d, fin_new, Seq_nx, Seq_bk, Seq_ct, Seq_rt, Br_true, Br_false, decide_true, decide_false, Bool.not_true, Bool.not_false, iSub_eq]
  refine draw_go f (by omega) (by decide) (by decide) fun v M1 h0 h1 f1 m1 => ?_
  obtain ⟨k, rfl⟩ := Int.eq_ofNat_of_zero_le h0
  have e3 : (3 : Int) + (k : Int) = ((3 + k : Nat) : Int) := by omega
  have hk : k < 3 := by omega
  simp only [ok_eBin, ok_eUn, ok_eVar, ok_eD, ok_eIf, ok_tVal, ok_tNot, ok_tAnd, ok_tOr, ok_tTrue, ok_aNil, ok_aCons, ok_eTup, ok_eLst, ok_eCallB, ok_eSl, ok_oNone, ok_oSome, ok_eNot, ok_eAnd, ok_eOr, ok_eAl, ok_eCallU, ok_eMth, ok_sSeq, ok_sNx, ok_sBk, ok_sCt, ok_sDrop, ok_sRet, ok_sRetN, ok_sIf, ok_sSet, ok_sPar, ok_sSto, ok_sFor, ok_iE, ok_iRg, ok_eLc, ok_defF, ok_eDisp, ok_eDNew, pair_nil, pair_cons, Turn_nx, Turn_ct, Turn_bk, Turn_rt, List.take_length, startE, List.map_cons, List.map_nil, Nat.reduceSub, List.replicate_succ, List.replicate_zero, List.append_nil, Ok_ok, Ok_bad, Ok_err, Ok_ne, Ok_stl, List.getElem?_cons_zero, List.getElem?_cons_succ, List.set_cons_zero, List.set_cons_succ, Option.some.injEq, exists_eq_left', exists_eq_left, Ev.stl_d, Ev.stl_new, pv_p, pur_p, purs_nil, purs_p, onP_p, ii_int, Option.map_some, Option.bind_some, D.p.injEq, PyData.int.injEq, PyData.bool.injEq, PyData.str.injEq, PyData.tuple.injEq, PyData.list.injEq, Bool.false_eq_true, if_false, if_true, exists_two, and_true, true_and, and_self, dAdd_int, planD_nil, planD_at, planD_df, List.length_cons, List.length_nil, List.nil_append, List.cons_append, Nat.zero_add, Nat.reduceAdd, exists_some2, exists_pair2, Nat.zero_le, le_line1, le_line2, le_line3, le_line4, le_line5, le_line6, le_line7, le_line8, le_line9, le_line10, le_line11, le_line12, wipeE_nil, wipeE_cons, MObj.toP, fin_d, fin_new, Seq_nx, Seq_bk, Seq_ct, Seq_rt, Br_true, Br_false, decide_true, decide_false, Bool.not_true, Bool.not_false, NMlist, e3]
  refine sample_ok f1 (by omega) (by decide) (by show 3 + k ≤ 6; omega) fun folk rest M2 hl hp f2 m2 => ?_
  obtain ⟨fn, fm⟩ := nodup_of hp NM_nodup
  simp only [ok_eBin, ok_eUn, ok_eVar, ok_eD, ok_eIf, ok_tVal, ok_tNot, ok_tAnd, ok_tOr, ok_tTrue, ok_aNil, ok_aCons, ok_eTup, ok_eLst, ok_eCallB, ok_eSl, ok_oNone, ok_oSome, ok_eNot, ok_eAnd, ok_eOr, ok_eAl, ok_eCallU, ok_eMth, ok_sSeq, ok_sNx, ok_sBk, ok_sCt, ok_sDrop, ok_sRet, ok_sRetN, ok_sIf, ok_sSet, ok_sPar, ok_sSto, ok_sFor, ok_iE, ok_iRg, ok_eLc, ok_defF, ok_eDisp, ok_eDNew, pair_nil, pair_cons, Turn_nx, Turn_ct, Turn_bk, Turn_rt, List.take_length, startE, List.map_cons, List.map_nil, Nat.reduceSub, List.replicate_succ, List.replicate_zero, List.append_nil, Ok_ok, Ok_bad, Ok_err, Ok_ne, Ok_stl, List.getElem?_cons_zero, List.getElem?_cons_succ, List.set_cons_zero, List.set_cons_succ, Option.some.injEq, exists_eq_left', exists_eq_left, Ev.stl_d, Ev.stl_new, pv_p, pur_p, purs_nil, purs_p, onP_p, ii_int, Option.map_some, Option.bind_some, D.p.injEq, PyData.int.injEq, PyData.bool.injEq, PyData.str.injEq, PyData.tuple.injEq, PyData.list.injEq, Bool.false_eq_true, if_false, if_true, exists_two, and_true, true_and, and_self, dAdd_int, planD_nil, planD_at, planD_df, List.length_cons, List.length_nil, List.nil_append, List.cons_append, Nat.zero_add, Nat.reduceAdd, exists_some2, exists_pair2, Nat.zero_le, le_line1, le_line2, le_line3, le_line4, le_line5, le_line6, le_line7, le_line8, le_line9, le_line10, le_line11, le_line12, wipeE_nil, wipeE_cons, MObj.toP, fin_d, fin_new, Seq_nx, Seq_bk, Seq_ct, Seq_rt, Br_true, Br_false, decide_true, decide_false, Bool.not_true, Bool.not_false]
  have kl : M.length = M2.length := (m1.trans m2).1.symm
  refine draw_go f2.app (by omega) (by decide) (by decide) fun v M3' h0 h1 f3 m3 => ?_
  obtain ⟨M3, rfl, m3, f3⟩ := m3.split f2.lt f3
  obtain ⟨am, ha1, ha2, ea⟩ := pick5 h0 h1
  simp only [ok_eBin, ok_eUn, ok_eVar, ok_eD, ok_eIf, ok_tVal, ok_tNot, ok_tAnd, ok_tOr, ok_tTrue, ok_aNil, ok_aCons, ok_eTup, ok_eLst, ok_eCallB, ok_eSl, ok_oNone, ok_oSome, ok_eNot, ok_eAnd, ok_eOr, ok_eAl, ok_eCallU, ok_eMth, ok_sSeq, ok_sNx, ok_sBk, ok_sCt, ok_sDrop, ok_sRet, ok_sRetN, ok_sIf, ok_sSet, ok_sPar, ok_sSto, ok_sFor, ok_iE, ok_iRg, ok_eLc, ok_defF, ok_eDisp, ok_eDNew, pair_nil, pair_cons, Turn_nx, Turn_ct, Turn_bk, Turn_rt, List.take_length, startE, List.map_cons, List.map_nil, Nat.reduceSub, List.replicate_succ, List.replicate_zero, List.append_nil, Ok_ok, Ok_bad, Ok_err, Ok_ne, Ok_stl, List.getElem?_cons_zero, List.getElem?_cons_succ, List.set_cons_zero, List.set_cons_succ, Option.some.injEq, exists_eq_left', exists_eq_left, Ev.stl_d, Ev.stl_new, pv_p, pur_p, purs_nil, purs_p, onP_p, ii_int, Option.map_some, Option.bind_some, D.p.injEq, PyData.int.injEq, PyData.bool.injEq, PyData.str.injEq, PyData.tuple.injEq, PyData.list.injEq, Bool.false_eq_true, if_false, if_true, exists_two, and_true, true_and, and_self, dAdd_int, planD_nil, planD_at, planD_df, List.length_cons, List.length_nil, List.nil_append, List.cons_append, Nat.zero_add, Nat.reduceAdd, exists_some2, exists_pair2, Nat.zero_le, le_line1, le_line2, le_line3, le_line4, le_line5, le_line6, le_line7, le_line8, le_line9, le_line10, le_line11, le_line12, wipeE_nil, wipeE_cons, MObj.toP, fin_d, fin_new, Seq_nx, Seq_bk, Seq_ct, Seq_rt, Br_true, Br_false, decide_true, decide_false, Bool.not_true, Bool.not_false, sub_list, ea]
  refine draw_go f3.app (by omega) (by decide) (by decide) fun v M4' h0 h1 f4 m4 => ?_
  obtain ⟨M4, rfl, m4, f4⟩ := m4.split f3.lt f4
  have er : rg1 [.p (.int (4 + v))] = some (stR 0 (4 + v).toNat) := rg1_int (by omega) (by omega)
  have ml : M2.length = M4.length := (m3.trans m4).1.symm
  simp only [ok_eBin, ok_eUn, ok_eVar, ok_eD, ok_eIf, ok_tVal, ok_tNot, ok_tAnd, ok_tOr, ok_tTrue, ok_aNil, ok_aCons, ok_eTup, ok_eLst, ok_eCallB, ok_eSl, ok_oNone, ok_oSome, ok_eNot, ok_eAnd, ok_eOr, ok_eAl, ok_eCallU, ok_eMth, ok_sSeq, ok_sNx, ok_sBk, ok_sCt, ok_sDrop, ok_sRet, ok_sRetN, ok_sIf, ok_sSet, ok_sPar, ok_sSto, ok_sFor, ok_iE, ok_iRg, ok_eLc, ok_defF, ok_eDisp, ok_eDNew, pair_nil, pair_cons, Turn_nx, Turn_ct, Turn_bk, Turn_rt, List.take_length, startE, List.map_cons, List.map_nil, Nat.reduceSub, List.replicate_succ, List.replicate_zero, List.append_nil, Ok_ok, Ok_bad, Ok_err, Ok_ne, Ok_stl, List.getElem?_cons_zero, List.getElem?_cons_succ, List.set_cons_zero, List.set_cons_succ, Option.some.injEq, exists_eq_left', exists_eq_left, Ev.stl_d, Ev.stl_new, pv_p, pur_p, purs_nil, purs_p, onP_p, ii_int, Option.map_some, Option.bind_some, D.p.injEq, PyData.int.injEq, PyData.bool.injEq, PyData.str.injEq, PyData.tuple.injEq, PyData.list.injEq, Bool.false_eq_true, if_false, if_true, exists_two, and_true, true_and, and_self, dAdd_int, planD_nil, planD_at, planD_df, List.length_cons, List.length_nil, List.nil_append, List.cons_append, Nat.zero_add, Nat.reduceAdd, exists_some2, exists_pair2, Nat.zero_le, le_line1, le_line2, le_line3, le_line4, le_line5, le_line6, le_line7, le_line8, le_line9, le_line10, le_line11, le_line12, wipeE_nil, wipeE_cons, MObj.toP, fin_d, fin_new, Seq_nx, Seq_bk, Seq_ct, Seq_rt, Br_true, Br_false, decide_true, decide_false, Bool.not_true, Bool.not_false, er]
  refine for_range (fun i ρ M' => ∃ xss M0 a5 a6 a7 a8 a9, ρ = [some (.obj n), some (.p (.int 5)), some (.p (.list (folk.map .str))), some (.obj M2.length), some (.p (.int am)), a5, a6, a7, a8, a9] ∧ M' = M0 ++ [.lst (xss.map tm)] ∧ Fd M0 n (b + 9 + i * 7) ∧ Mo n M M0 ∧
    xss.length ≤ i ∧ (∀ xs ∈ xss, xs ≠ [] ∧ xs.length ≤ 10 ∧ xs.Nodup ∧ ∀ x ∈ xs, x ∈ NM) ∧ (0 < i → xss ≠ [])) (by rw [sizeLine_eq]; omega) ⟨[], M4, _, _, _, _, _, rfl, rfl, f4.mono (by omega), ((m1.trans m2).trans m3).trans m4, Nat.le_refl _, by simp, by simp⟩ ?_ ?_
  · intro i ρ M' hi hI
    obtain ⟨xss, M0, a5, a6, a7, a8, a9, e1, e2, f5, m5, hxl, hx, hx0⟩ := hI
    subst e1
    subst e2
    have kl0 : M2.length = M0.length := by rw [← kl]; exact m5.1.symm
    simp only [ok_eBin, ok_eUn, ok_eVar, ok_eD, ok_eIf, ok_tVal, ok_tNot, ok_tAnd, ok_tOr, ok_tTrue, ok_aNil, ok_aCons, ok_eTup, ok_eLst, ok_eCallB, ok_eSl, ok_oNone, ok_oSome, ok_eNot, ok_eAnd, ok_eOr, ok_eAl, ok_eCallU, ok_eMth, ok_sSeq, ok_sNx, ok_sBk, ok_sCt, ok_sDrop, ok_sRet, ok_sRetN, ok_sIf, ok_sSet, ok_sPar, ok_sSto, ok_sFor, ok_iE, ok_iRg, ok_eLc, ok_defF, ok_eDisp, ok_eDNew, pair_nil, pair_cons, Turn_nx, Turn_ct, Turn_bk, Turn_rt, List.take_length, startE, List.map_cons, List.map_nil, Nat.reduceSub, List.replicate_succ, List.replicate_zero, List.append_nil, Ok_ok, Ok_bad, Ok_err, Ok_ne, Ok_stl, List.getElem?_cons_zero, List.getElem?_cons_succ, List.set_cons_zero, List.set_cons_succ, Option.some.injEq, exists_eq_left', exists_eq_left, Ev.stl_d, Ev.stl_new, pv_p, pur_p, purs_nil, purs_p, onP_p, ii_int, Option.map_some, Option.bind_some, D.p.injEq, PyData.int.injEq, PyData.bool.injEq, PyData.str.injEq, PyData.tuple.injEq, PyData.list.injEq, Bool.false_eq_true, if_false, if_true, exists_two, and_true, true_and, and_self, dAdd_int, planD_nil, planD_at, planD_df, List.length_cons, List.length_nil, List.nil_append, List.cons_append, Nat.zero_add, Nat.reduceAdd, exists_some2, exists_pair2, Nat.zero_le, le_line1, le_line2, le_line3, le_line4, le_line5, le_line6, le_line7, le_line8, le_line9, le_line10, le_line11, le_line12, wipeE_nil, wipeE_cons, MObj.toP, fin_d, fin_new, Seq_nx, Seq_bk, Seq_ct, Seq_rt, Br_true, Br_false, decide_true, decide_false, Bool.not_true, Bool.not_false, neg_int]
    refine draw_go f5.app (by omega) (by decide) (by decide) fun v2 M6' h0 h1 f6 m6 => ?_
    obtain ⟨M6, rfl, m6, f6⟩ := m6.split f5.lt f6
    obtain ⟨ex, hx1, hx2, eb⟩ := pick5b h0 h1
    simp only [ok_eBin, ok_eUn, ok_eVar, ok_eD, ok_eIf, ok_tVal, ok_tNot, ok_tAnd, ok_tOr, ok_tTrue, ok_aNil, ok_aCons, ok_eTup, ok_eLst, ok_eCallB, ok_eSl, ok_oNone, ok_oSome, ok_eNot, ok_eAnd, ok_eOr, ok_eAl, ok_eCallU, ok_eMth, ok_sSeq, ok_sNx, ok_sBk, ok_sCt, ok_sDrop, ok_sRet, ok_sRetN, ok_sIf, ok_sSet, ok_sPar, ok_sSto, ok_sFor, ok_iE, ok_iRg, ok_eLc, ok_defF, ok_eDisp, ok_eDNew, pair_nil, pair_cons, Turn_nx, Turn_ct, Turn_bk, Turn_rt, List.take_length, startE, List.map_cons, List.map_nil, Nat.reduceSub, List.replicate_succ, List.replicate_zero, List.append_nil, Ok_ok, Ok_bad, Ok_err, Ok_ne, Ok_stl, List.getElem?_cons_zero, List.getElem?_cons_succ, List.set_cons_zero, List.set_cons_succ, Option.some.injEq, exists_eq_left', exists_eq_left, Ev.stl_d, Ev.stl_new, pv_p, pur_p, purs_nil, purs_p, onP_p, ii_int, Option.map_some, Option.bind_some, D.p.injEq, PyData.int.injEq, PyData.bool.injEq, PyData.str.injEq, PyData.tuple.injEq, PyData.list.injEq, Bool.false_eq_true, if_false, if_true, exists_two, and_true, true_and, and_self, dAdd_int, planD_nil, planD_at, planD_df, List.length_cons, List.length_nil, List.nil_append, List.cons_append, Nat.zero_add, Nat.reduceAdd, exists_some2, exists_pair2, Nat.zero_le, le_line1, le_line2, le_line3, le_line4, le_line5, le_line6, le_line7, le_line8, le_line9, le_line10, le_line11, le_line12, wipeE_nil, wipeE_cons, MObj.toP, fin_d, fin_new, Seq_nx, Seq_bk, Seq_ct, Seq_rt, Br_true, Br_false, decide_true, decide_false, Bool.not_true, Bool.not_false, sub_list, eb, Cb.len_list, List.length_map, min_int, max_int]
    obtain ⟨q, eq, hq1, hq2⟩ : ∃ q : Nat, (if (if am + ex < (folk.length : Int) then am + ex else (folk.length : Int)) > 1 then (if am + ex < (folk.length : Int) then am + ex else (folk.length : Int)) else 1) = (q : Int) ∧ 1 ≤ q ∧ q ≤ folk.length := by
      refine ⟨(if (if am + ex < (folk.length : Int) then am + ex else (folk.length : Int)) > 1 then (if am + ex < (folk.length : Int) then am + ex else (folk.length : Int)) else 1).toNat, ?_, ?_, ?_⟩ <;> (split <;> (try split) <;> omega)
    rw [eq]
    refine sample_ok f6.app (by omega) (by omega) hq2 fun ys rest2 M7' hyl hyp f7 m7 => ?_
    obtain ⟨M7, rfl, m7, f7⟩ := m7.split f6.lt f7
    obtain ⟨yn, ym⟩ := nodup_of hyp fn
    have kl7 : M2.length = M7.length := by rw [kl0]; exact (m6.trans m7).1.symm
    simp only [ok_eBin, ok_eUn, ok_eVar, ok_eD, ok_eIf, ok_tVal, ok_tNot, ok_tAnd, ok_tOr, ok_tTrue, ok_aNil, ok_aCons, ok_eTup, ok_eLst, ok_eCallB, ok_eSl, ok_oNone, ok_oSome, ok_eNot, ok_eAnd, ok_eOr, ok_eAl, ok_eCallU, ok_eMth, ok_sSeq, ok_sNx, ok_sBk, ok_sCt, ok_sDrop, ok_sRet, ok_sRetN, ok_sIf, ok_sSet, ok_sPar, ok_sSto, ok_sFor, ok_iE, ok_iRg, ok_eLc, ok_defF, ok_eDisp, ok_eDNew, pair_nil, pair_cons, Turn_nx, Turn_ct, Turn_bk, Turn_rt, List.take_length, startE, List.map_cons, List.map_nil, Nat.reduceSub, List.replicate_succ, List.replicate_zero, List.append_nil, Ok_ok, Ok_bad, Ok_err, Ok_ne, Ok_stl, List.getElem?_cons_zero, List.getElem?_cons_succ, List.set_cons_zero, List.set_cons_succ, Option.some.injEq, exists_eq_left', exists_eq_left, Ev.stl_d, Ev.stl_new, pv_p, pur_p, purs_nil, purs_p, onP_p, ii_int, Option.map_some, Option.bind_some, D.p.injEq, PyData.int.injEq, PyData.bool.injEq, PyData.str.injEq, PyData.tuple.injEq, PyData.list.injEq, Bool.false_eq_true, if_false, if_true, exists_two, and_true, true_and, and_self, dAdd_int, planD_nil, planD_at, planD_df, List.length_cons, List.length_nil, List.nil_append, List.cons_append, Nat.zero_add, Nat.reduceAdd, exists_some2, exists_pair2, Nat.zero_le, le_line1, le_line2, le_line3, le_line4, le_line5, le_line6, le_line7, le_line8, le_line9, le_line10, le_line11, le_line12, wipeE_nil, wipeE_cons, MObj.toP, fin_d, fin_new, Seq_nx, Seq_bk, Seq_ct, Seq_rt, Br_true, Br_false, decide_true, decide_false, Bool.not_true, Bool.not_false, srt_strs, tup_strs, iVal, kl7, at_len M7 _ []]
    have hteam : srt ys ≠ [] ∧ (srt ys).length ≤ 10 ∧ (srt ys).Nodup ∧ ∀ x ∈ srt ys, x ∈ NM := by
      refine ⟨fun z => ?_, by rw [srt_length]; omega, srt_nodup.mpr yn, fun x hx => fm x (ym x (mem_srt.mp hx))⟩
      have := srt_length ys
      rw [z] at this
      simp at this
      omega
    have hsl : (srt ys).length ≤ sizeLine := by rw [sizeLine_eq]; omega
    refine lc_pure xss tm (fun xs => within xs (srt ys) || within (srt ys) xs) tm (by rw [sizeLine_eq]; omega) (st_obj (at_len M7 _ [])) (fun xs hxs => ⟨_, rfl, ?_⟩) ?_
    · have hxz : xs.length ≤ sizeLine := by have := (hx xs hxs).2.1; rw [sizeLine_eq]; omega
      simp only [ok_eBin, ok_eUn, ok_eVar, ok_eD, ok_eIf, ok_tVal, ok_tNot, ok_tAnd, ok_tOr, ok_tTrue, ok_aNil, ok_aCons, ok_eTup, ok_eLst, ok_eCallB, ok_eSl, ok_oNone, ok_oSome, ok_eNot, ok_eAnd, ok_eOr, ok_eAl, ok_eCallU, ok_eMth, ok_sSeq, ok_sNx, ok_sBk, ok_sCt, ok_sDrop, ok_sRet, ok_sRetN, ok_sIf, ok_sSet, ok_sPar, ok_sSto, ok_sFor, ok_iE, ok_iRg, ok_eLc, ok_defF, ok_eDisp, ok_eDNew, pair_nil, pair_cons, Turn_nx, Turn_ct, Turn_bk, Turn_rt, List.take_length, startE, List.map_cons, List.map_nil, Nat.reduceSub, List.replicate_succ, List.replicate_zero, List.append_nil, Ok_ok, Ok_bad, Ok_err, Ok_ne, Ok_stl, List.getElem?_cons_zero, List.getElem?_cons_succ, List.set_cons_zero, List.set_cons_succ, Option.some.injEq, exists_eq_left', exists_eq_left, Ev.stl_d, Ev.stl_new, pv_p, pur_p, purs_nil, purs_p, onP_p, ii_int, Option.map_some, Option.bind_some, D.p.injEq, PyData.int.injEq, PyData.bool.injEq, PyData.str.injEq, PyData.tuple.injEq, PyData.list.injEq, Bool.false_eq_true, if_false, if_true, exists_two, and_true, true_and, and_self, dAdd_int, planD_nil, planD_at, planD_df, List.length_cons, List.length_nil, List.nil_append, List.cons_append, Nat.zero_add, Nat.reduceAdd, exists_some2, exists_pair2, Nat.zero_le, le_line1, le_line2, le_line3, le_line4, le_line5, le_line6, le_line7, le_line8, le_line9, le_line10, le_line11, le_line12, wipeE_nil, wipeE_cons, MObj.toP, fin_d, fin_new, Seq_nx, Seq_bk, Seq_ct, Seq_rt, Br_true, Br_false, decide_true, decide_false, Bool.not_true, Bool.not_false]
      refine is_within_ok hxz ?_
      simp only [ok_eBin, ok_eUn, ok_eVar, ok_eD, ok_eIf, ok_tVal, ok_tNot, ok_tAnd, ok_tOr, ok_tTrue, ok_aNil, ok_aCons, ok_eTup, ok_eLst, ok_eCallB, ok_eSl, ok_oNone, ok_oSome, ok_eNot, ok_eAnd, ok_eOr, ok_eAl, ok_eCallU, ok_eMth, ok_sSeq, ok_sNx, ok_sBk, ok_sCt, ok_sDrop, ok_sRet, ok_sRetN, ok_sIf, ok_sSet, ok_sPar, ok_sSto, ok_sFor, ok_iE, ok_iRg, ok_eLc, ok_defF, ok_eDisp, ok_eDNew, pair_nil, pair_cons, Turn_nx, Turn_ct, Turn_bk, Turn_rt, List.take_length, startE, List.map_cons, List.map_nil, Nat.reduceSub, List.replicate_succ, List.replicate_zero, List.append_nil, Ok_ok, Ok_bad, Ok_err, Ok_ne, Ok_stl, List.getElem?_cons_zero, List.getElem?_cons_succ, List.set_cons_zero, List.set_cons_succ, Option.some.injEq, exists_eq_left', exists_eq_left, Ev.stl_d, Ev.stl_new, pv_p, pur_p, purs_nil, purs_p, onP_p, ii_int, Option.map_some, Option.bind_some, D.p.injEq, PyData.int.injEq, PyData.bool.injEq, PyData.str.injEq, PyData.tuple.injEq, PyData.list.injEq, Bool.false_eq_true, if_false, if_true, exists_two, and_true, true_and, and_self, dAdd_int, planD_nil, planD_at, planD_df, List.length_cons, List.length_nil, List.nil_append, List.cons_append, Nat.zero_add, Nat.reduceAdd, exists_some2, exists_pair2, Nat.zero_le, le_line1, le_line2, le_line3, le_line4, le_line5, le_line6, le_line7, le_line8, le_line9, le_line10, le_line11, le_line12, wipeE_nil, wipeE_cons, MObj.toP, fin_d, fin_new, Seq_nx, Seq_bk, Seq_ct, Seq_rt, Br_true, Br_false, decide_true, decide_false, Bool.not_true, Bool.not_false]
      refine Br.by (fun e => ?_) fun e => ?_
      · simp only [ok_eBin, ok_eUn, ok_eVar, ok_eD, ok_eIf, ok_tVal, ok_tNot, ok_tAnd, ok_tOr, ok_tTrue, ok_aNil, ok_aCons, ok_eTup, ok_eLst, ok_eCallB, ok_eSl, ok_oNone, ok_oSome, ok_eNot, ok_eAnd, ok_eOr, ok_eAl, ok_eCallU, ok_eMth, ok_sSeq, ok_sNx, ok_sBk, ok_sCt, ok_sDrop, ok_sRet, ok_sRetN, ok_sIf, ok_sSet, ok_sPar, ok_sSto, ok_sFor, ok_iE, ok_iRg, ok_eLc, ok_defF, ok_eDisp, ok_eDNew, pair_nil, pair_cons, Turn_nx, Turn_ct, Turn_bk, Turn_rt, List.take_length, startE, List.map_cons, List.map_nil, Nat.reduceSub, List.replicate_succ, List.replicate_zero, List.append_nil, Ok_ok, Ok_bad, Ok_err, Ok_ne, Ok_stl, List.getElem?_cons_zero, List.getElem?_cons_succ, List.set_cons_zero, List.set_cons_succ, Option.some.injEq, exists_eq_left', exists_eq_left, Ev.stl_d, Ev.stl_new, pv_p, pur_p, purs_nil, purs_p, onP_p, ii_int, Option.map_some, Option.bind_some, D.p.injEq, PyData.int.injEq, PyData.bool.injEq, PyData.str.injEq, PyData.tuple.injEq, PyData.list.injEq, Bool.false_eq_true, if_false, if_true, exists_two, and_true, true_and, and_self, dAdd_int, planD_nil, planD_at, planD_df, List.length_cons, List.length_nil, List.nil_append, List.cons_append, Nat.zero_add, Nat.reduceAdd, exists_some2, exists_pair2, Nat.zero_le, le_line1, le_line2, le_line3, le_line4, le_line5, le_line6, le_line7, le_line8, le_line9, le_line10, le_line11, le_line12, wipeE_nil, wipeE_cons, MObj.toP, fin_d, fin_new, Seq_nx, Seq_bk, Seq_ct, Seq_rt, Br_true, Br_false, decide_true, decide_false, Bool.not_true, Bool.not_false, e, Bool.true_or]
        trivial
      · simp only [ok_eBin, ok_eUn, ok_eVar, ok_eD, ok_eIf, ok_tVal, ok_tNot, ok_tAnd, ok_tOr, ok_tTrue, ok_aNil, ok_aCons, ok_eTup, ok_eLst, ok_eCallB, ok_eSl, ok_oNone, ok_oSome, ok_eNot, ok_eAnd, ok_eOr, ok_eAl, ok_eCallU, ok_eMth, ok_sSeq, ok_sNx, ok_sBk, ok_sCt, ok_sDrop, ok_sRet, ok_sRetN, ok_sIf, ok_sSet, ok_sPar, ok_sSto, ok_sFor, ok_iE, ok_iRg, ok_eLc, ok_defF, ok_eDisp, ok_eDNew, pair_nil, pair_cons, Turn_nx, Turn_ct, Turn_bk, Turn_rt, List.take_length, startE, List.map_cons, List.map_nil, Nat.reduceSub, List.replicate_succ, List.replicate_zero, List.append_nil, Ok_ok, Ok_bad, Ok_err, Ok_ne, Ok_stl, List.getElem?_cons_zero, List.getElem?_cons_succ, List.set_cons_zero, List.set_cons_succ, Option.some.injEq, exists_eq_left', exists_eq_left, Ev.stl_d, Ev.stl_new, pv_p, pur_p, purs_nil, purs_p, onP_p, ii_int, Option.map_some, Option.bind_some, D.p.injEq, PyData.int.injEq, PyData.bool.injEq, PyData.str.injEq, PyData.tuple.injEq, PyData.list.injEq, Bool.false_eq_true, if_false, if_true, exists_two, and_true, true_and, and_self, dAdd_int, planD_nil, planD_at, planD_df, List.length_cons, List.length_nil, List.nil_append, List.cons_append, Nat.zero_add, Nat.reduceAdd, exists_some2, exists_pair2, Nat.zero_le, le_line1, le_line2, le_line3, le_line4, le_line5, le_line6, le_line7, le_line8, le_line9, le_line10, le_line11, le_line12, wipeE_nil, wipeE_cons, MObj.toP, fin_d, fin_new, Seq_nx, Seq_bk, Seq_ct, Seq_rt, Br_true, Br_false, decide_true, decide_false, Bool.not_true, Bool.not_false]
        refine is_within_ok hsl ?_
        simp only [ok_eBin, ok_eUn, ok_eVar, ok_eD, ok_eIf, ok_tVal, ok_tNot, ok_tAnd, ok_tOr, ok_tTrue, ok_aNil, ok_aCons, ok_eTup, ok_eLst, ok_eCallB, ok_eSl, ok_oNone, ok_oSome, ok_eNot, ok_eAnd, ok_eOr, ok_eAl, ok_eCallU, ok_eMth, ok_sSeq, ok_sNx, ok_sBk, ok_sCt, ok_sDrop, ok_sRet, ok_sRetN, ok_sIf, ok_sSet, ok_sPar, ok_sSto, ok_sFor, ok_iE, ok_iRg, ok_eLc, ok_defF, ok_eDisp, ok_eDNew, pair_nil, pair_cons, Turn_nx, Turn_ct, Turn_bk, Turn_rt, List.take_length, startE, List.map_cons, List.map_nil, Nat.reduceSub, List.replicate_succ, List.replicate_zero, List.append_nil, Ok_ok, Ok_bad, Ok_err, Ok_ne, Ok_stl, List.getElem?_cons_zero, List.getElem?_cons_succ, List.set_cons_zero, List.set_cons_succ, Option.some.injEq, exists_eq_left', exists_eq_left, Ev.stl_d, Ev.stl_new, pv_p, pur_p, purs_nil, purs_p, onP_p, ii_int, Option.map_some, Option.bind_some, D.p.injEq, PyData.int.injEq, PyData.bool.injEq, PyData.str.injEq, PyData.tuple.injEq, PyData.list.injEq, Bool.false_eq_true, if_false, if_true, exists_two, and_true, true_and, and_self, dAdd_int, planD_nil, planD_at, planD_df, List.length_cons, List.length_nil, List.nil_append, List.cons_append, Nat.zero_add, Nat.reduceAdd, exists_some2, exists_pair2, Nat.zero_le, le_line1, le_line2, le_line3, le_line4, le_line5, le_line6, le_line7, le_line8, le_line9, le_line10, le_line11, le_line12, wipeE_nil, wipeE_cons, MObj.toP, fin_d, fin_new, Seq_nx, Seq_bk, Seq_ct, Seq_rt, Br_true, Br_false, decide_true, decide_false, Bool.not_true, Bool.not_false, e, Bool.false_or]
        first | trivial | exact fun _ => trivial
    · simp only [ok_eBin, ok_eUn, ok_eVar, ok_eD, ok_eIf, ok_tVal, ok_tNot, ok_tAnd, ok_tOr, ok_tTrue, ok_aNil, ok_aCons, ok_eTup, ok_eLst, ok_eCallB, ok_eSl, ok_oNone, ok_oSome, ok_eNot, ok_eAnd, ok_eOr, ok_eAl, ok_eCallU, ok_eMth, ok_sSeq, ok_sNx, ok_sBk, ok_sCt, ok_sDrop, ok_sRet, ok_sRetN, ok_sIf, ok_sSet, ok_sPar, ok_sSto, ok_sFor, ok_iE, ok_iRg, ok_eLc, ok_defF, ok_eDisp, ok_eDNew, pair_nil, pair_cons, Turn_nx, Turn_ct, Turn_bk, Turn_rt, List.take_length, startE, List.map_cons, List.map_nil, Nat.reduceSub, List.replicate_succ, List.replicate_zero, List.append_nil, Ok_ok, Ok_bad, Ok_err, Ok_ne, Ok_stl, List.getElem?_cons_zero, List.getElem?_cons_succ, List.set_cons_zero, List.set_cons_succ, Option.some.injEq, exists_eq_left', exists_eq_left, Ev.stl_d, Ev.stl_new, pv_p, pur_p, purs_nil, purs_p, onP_p, ii_int, Option.map_some, Option.bind_some, D.p.injEq, PyData.int.injEq, PyData.bool.injEq, PyData.str.injEq, PyData.tuple.injEq, PyData.list.injEq, Bool.false_eq_true, if_false, if_true, exists_two, and_true, true_and, and_self, dAdd_int, planD_nil, planD_at, planD_df, List.length_cons, List.length_nil, List.nil_append, List.cons_append, Nat.zero_add, Nat.reduceAdd, exists_some2, exists_pair2, Nat.zero_le, le_line1, le_line2, le_line3, le_line4, le_line5, le_line6, le_line7, le_line8, le_line9, le_line10, le_line11, le_line12, wipeE_nil, wipeE_cons, MObj.toP, fin_d, fin_new, Seq_nx, Seq_bk, Seq_ct, Seq_rt, Br_true, Br_false, decide_true, decide_false, Bool.not_true, Bool.not_false, eq_nil (okP_tms _)]
      refine Br.by (fun e => ?_) fun e => ?_
      · have hz : (xss.map tm).length < sizeLine := by rw [List.length_map, sizeLine_eq]; omega
        simp only [ok_eBin, ok_eUn, ok_eVar, ok_eD, ok_eIf, ok_tVal, ok_tNot, ok_tAnd, ok_tOr, ok_tTrue, ok_aNil, ok_aCons, ok_eTup, ok_eLst, ok_eCallB, ok_eSl, ok_oNone, ok_oSome, ok_eNot, ok_eAnd, ok_eOr, ok_eAl, ok_eCallU, ok_eMth, ok_sSeq, ok_sNx, ok_sBk, ok_sCt, ok_sDrop, ok_sRet, ok_sRetN, ok_sIf, ok_sSet, ok_sPar, ok_sSto, ok_sFor, ok_iE, ok_iRg, ok_eLc, ok_defF, ok_eDisp, ok_eDNew, pair_nil, pair_cons, Turn_nx, Turn_ct, Turn_bk, Turn_rt, List.take_length, startE, List.map_cons, List.map_nil, Nat.reduceSub, List.replicate_succ, List.replicate_zero, List.append_nil, Ok_ok, Ok_bad, Ok_err, Ok_ne, Ok_stl, List.getElem?_cons_zero, List.getElem?_cons_succ, List.set_cons_zero, List.set_cons_succ, Option.some.injEq, exists_eq_left', exists_eq_left, Ev.stl_d, Ev.stl_new, pv_p, pur_p, purs_nil, purs_p, onP_p, ii_int, Option.map_some, Option.bind_some, D.p.injEq, PyData.int.injEq, PyData.bool.injEq, PyData.str.injEq, PyData.tuple.injEq, PyData.list.injEq, Bool.false_eq_true, if_false, if_true, exists_two, and_true, true_and, and_self, dAdd_int, planD_nil, planD_at, planD_df, List.length_cons, List.length_nil, List.nil_append, List.cons_append, Nat.zero_add, Nat.reduceAdd, exists_some2, exists_pair2, Nat.zero_le, le_line1, le_line2, le_line3, le_line4, le_line5, le_line6, le_line7, le_line8, le_line9, le_line10, le_line11, le_line12, wipeE_nil, wipeE_cons, MObj.toP, fin_d, fin_new, Seq_nx, Seq_bk, Seq_ct, Seq_rt, Br_true, Br_false, decide_true, decide_false, Bool.not_true, Bool.not_false, kind_obj (at_len M7 _ []), gm_append, mapp (at_len M7 _ []) hz, set_len]
        refine ⟨xss ++ [srt ys], M7, _, _, _, _, _, rfl, by simp, f7.mono (by omega), (m5.trans m6).trans m7, by simp; omega, fun xs hxs => ?_, fun _ => by simp⟩
        rcases List.mem_append.mp hxs with h1 | h1
        · exact hx xs h1
        · rw [List.mem_singleton.mp h1]; exact hteam
      · simp only [ok_eBin, ok_eUn, ok_eVar, ok_eD, ok_eIf, ok_tVal, ok_tNot, ok_tAnd, ok_tOr, ok_tTrue, ok_aNil, ok_aCons, ok_eTup, ok_eLst, ok_eCallB, ok_eSl, ok_oNone, ok_oSome, ok_eNot, ok_eAnd, ok_eOr, ok_eAl, ok_eCallU, ok_eMth, ok_sSeq, ok_sNx, ok_sBk, ok_sCt, ok_sDrop, ok_sRet, ok_sRetN, ok_sIf, ok_sSet, ok_sPar, ok_sSto, ok_sFor, ok_iE, ok_iRg, ok_eLc, ok_defF, ok_eDisp, ok_eDNew, pair_nil, pair_cons, Turn_nx, Turn_ct, Turn_bk, Turn_rt, List.take_length, startE, List.map_cons, List.map_nil, Nat.reduceSub, List.replicate_succ, List.replicate_zero, List.append_nil, Ok_ok, Ok_bad, Ok_err, Ok_ne, Ok_stl, List.getElem?_cons_zero, List.getElem?_cons_succ, List.set_cons_zero, List.set_cons_succ, Option.some.injEq, exists_eq_left', exists_eq_left, Ev.stl_d, Ev.stl_new, pv_p, pur_p, purs_nil, purs_p, onP_p, ii_int, Option.map_some, Option.bind_some, D.p.injEq, PyData.int.injEq, PyData.bool.injEq, PyData.str.injEq, PyData.tuple.injEq, PyData.list.injEq, Bool.false_eq_true, if_false, if_true, exists_two, and_true, true_and, and_self, dAdd_int, planD_nil, planD_at, planD_df, List.length_cons, List.length_nil, List.nil_append, List.cons_append, Nat.zero_add, Nat.reduceAdd, exists_some2, exists_pair2, Nat.zero_le, le_line1, le_line2, le_line3, le_line4, le_line5, le_line6, le_line7, le_line8, le_line9, le_line10, le_line11, le_line12, wipeE_nil, wipeE_cons, MObj.toP, fin_d, fin_new, Seq_nx, Seq_bk, Seq_ct, Seq_rt, Br_true, Br_false, decide_true, decide_false, Bool.not_true, Bool.not_false]
        refine ⟨xss, M7, _, _, _, _, _, rfl, rfl, f7.mono (by omega), (m5.trans m6).trans m7, by omega, hx, fun _ z => ?_⟩
        subst z
        cases e
  · intro ρ M' hI
    obtain ⟨xss, M0, a5, a6, a7, a8, a9, e1, e2, f5, m5, hxl, hx, hx0⟩ := hI
    subst e1
    subst e2
    have kl0 : M2.length = M0.length := by rw [← kl]; exact m5.1.symm
    have kl1 : M.length = M0.length := m5.1.symm
    have g : GT xss := ⟨by omega, hx⟩
    have e4 : bSrt [.obj M0.length] (M0 ++ [.lst (xss.map tm)]) = some (.new (.lst ((srtT xss).map tm)), M0 ++ [.lst (xss.map tm)]) := bSrt_teams (seqP_obj (at_len M0 _ [])) fun xs hxs => (hx xs hxs).1
    simp only [ok_eBin, ok_eUn, ok_eVar, ok_eD, ok_eIf, ok_tVal, ok_tNot, ok_tAnd, ok_tOr, ok_tTrue, ok_aNil, ok_aCons, ok_eTup, ok_eLst, ok_eCallB, ok_eSl, ok_oNone, ok_oSome, ok_eNot, ok_eAnd, ok_eOr, ok_eAl, ok_eCallU, ok_eMth, ok_sSeq, ok_sNx, ok_sBk, ok_sCt, ok_sDrop, ok_sRet, ok_sRetN, ok_sIf, ok_sSet, ok_sPar, ok_sSto, ok_sFor, ok_iE, ok_iRg, ok_eLc, ok_defF, ok_eDisp, ok_eDNew, pair_nil, pair_cons, Turn_nx, Turn_ct, Turn_bk, Turn_rt, List.take_length, startE, List.map_cons, List.map_nil, Nat.reduceSub, List.replicate_succ, List.replicate_zero, List.append_nil, Ok_ok, Ok_bad, Ok_err, Ok_ne, Ok_stl, List.getElem?_cons_zero, List.getElem?_cons_succ, List.set_cons_zero, List.set_cons_succ, Option.some.injEq, exists_eq_left', exists_eq_left, Ev.stl_d, Ev.stl_new, pv_p, pur_p, purs_nil, purs_p, onP_p, ii_int, Option.map_some, Option.bind_some, D.p.injEq, PyData.int.injEq, PyData.bool.injEq, PyData.str.injEq, PyData.tuple.injEq, PyData.list.injEq, Bool.false_eq_true, if_false, if_true, exists_two, and_true, true_and, and_self, dAdd_int, planD_nil, planD_at, planD_df, List.length_cons, List.length_nil, List.nil_append, List.cons_append, Nat.zero_add, Nat.reduceAdd, exists_some2, exists_pair2, Nat.zero_le, le_line1, le_line2, le_line3, le_line4, le_line5, le_line6, le_line7, le_line8, le_line9, le_line10, le_line11, le_line12, wipeE_nil, wipeE_cons, MObj.toP, fin_d, fin_new, Seq_nx, Seq_bk, Seq_ct, Seq_rt, Br_true, Br_false, decide_true, decide_false, Bool.not_true, Bool.not_false, kl0, e4, tup_list, kl1, take_len]
    refine h (srtT xss) M0 g.srt (fun z => ?_) (f5.mono (by omega)) m5
    have := (srtT_perm xss).length_eq
    rw [z] at this
    exact hx0 (by omega) (List.length_eq_zero_iff.mp this.symm)
end LK49

set_option Elab.async false
set_option linter.all false
set_option maxRecDepth 100000
namespace LK49
open PySem PySem.Spec PyProof.Rows L2 Cb
open PySem.W (Datum DatumOrd Tup)

theorem ok_eSrtLen (φ : PFn) (ρ : Cb.Env) (M : Mem) (Q : Ev → Mem → Prop) : Ok (eSrtLen φ ρ M) Q = Ok (φ ρ M) fun x M1 => ∃ xs, seqP x.stl M1 = some xs ∧ xs.all okLen = true ∧ Q (.new (.lst (bSrtLen xs))) M1 := by
  simp only [eSrtLen, Ok_bind, Ok_stl]
  congr 1
  funext e M1
  cases e1 : seqP e.stl M1 with
  | none => simp
  | some xs =>
    refine propext ⟨fun h => ?_, fun ⟨ys, e2, h2, h⟩ => ?_⟩
    · simp only [Ok_ite, Ok_ok, Ok_bad] at h
      split at h
      · exact ⟨xs, rfl, by assumption, h⟩
      · exact h.elim
    · cases e2
      simp only [if_pos h2, Ok_ok]
      exact h
theorem okLen_tms (zs : List (List Str)) : (zs.map tm).all okLen = true := by
  rw [List.all_map, List.all_eq_true]
  intro x _
  show okLen (tm x) = true
  unfold okLen
  rw [show okP (tm x) = true from okP_toD (α := Tup Str) (by decide) ⟨x⟩]
  rfl
theorem srtLen_tms (zs : List (List Str)) : ∃ ws : List (List Str), bSrtLen (zs.map tm) = ws.map tm ∧ ws.Perm zs := by
  refine ⟨zs.mergeSort fun a b => PySem.W.dataLe false keyLen (tm a) (tm b), ?_, List.mergeSort_perm _ _⟩
  unfold bSrtLen
  exact (List.map_mergeSort (f := tm) (r := fun a b => PySem.W.dataLe false keyLen (tm a) (tm b)) fun a _ b _ => rfl).symm
theorem iVal_list (xs : List P) (M : Mem) : iVal (.p (.list xs)) M = some (stL xs) := rfl
theorem all_sets_ok {gr : List Str} {M : Mem} {Q : Ev → Mem → Prop} (hn : gr.Nodup) (hl : gr.length ≤ 6)
    (h : ∀ ws : List (List Str), ws.length = 2 ^ gr.length → (∀ w ∈ ws, w.Nodup ∧ w.length ≤ gr.length ∧ ∀ x ∈ w, x ∈ gr) → (∀ j, j ≤ gr.length → ∃ w ∈ ws, w.length = j) → Q (.new (.lst (ws.map tm))) M) : Ok (fs__law_all_sets [.p (.list (gr.map .str))] M) Q := by
  have hs : (srt gr).length = gr.length := srt_length gr
  have hsn : (srt gr).Nodup := srt_nodup.mpr hn
  have e0 : PyData.list [.tuple []] = .list (([[]] : List (List Str)).map tm) := rfl
  unfold fs__law_all_sets φ__law_all_sets
  simp only [ok_eBin, ok_eUn, ok_eVar, ok_eD, ok_eIf, ok_tVal, ok_tNot, ok_tAnd, ok_tOr, ok_tTrue, ok_aNil, ok_aCons, ok_eTup, ok_eLst, ok_eCallB, ok_eSl, ok_oNone, ok_oSome, ok_eNot, ok_eAnd, ok_eOr, ok_eAl, ok_eCallU, ok_eMth, ok_sSeq, ok_sNx, ok_sBk, ok_sCt, ok_sDrop, ok_sRet, ok_sRetN, ok_sIf, ok_sSet, ok_sPar, ok_sSto, ok_sFor, ok_iE, ok_iRg, ok_eLc, ok_defF, ok_eDisp, ok_eDNew, pair_nil, pair_cons, Turn_nx, Turn_ct, Turn_bk, Turn_rt, List.take_length, startE, List.map_cons, List.map_nil, Nat.reduceSub, List.replicate_succ, List.replicate_zero, List.append_nil, Ok_ok, Ok_bad, Ok_err, Ok_ne, Ok_stl, List.getElem?_cons_zero, List.getElem?_cons_succ, List.set_cons_zero, List.set_cons_succ, Option.some.injEq, exists_eq_left', exists_eq_left, Ev.stl_d, Ev.stl_new, pv_p, pur_p, purs_nil, purs_p, onP_p, ii_int, Option.map_some, Option.bind_some, D.p.injEq, PyData.int.injEq, PyData.bool.injEq, PyData.str.injEq, PyData.tuple.injEq, PyData.list.injEq, Bool.false_eq_true, if_false, if_true, exists_two, and_true, true_and, and_self, dAdd_int, planD_nil, planD_at, planD_df, List.length_cons, List.length_nil, List.nil_append, List.cons_append, Nat.zero_add, Nat.reduceAdd, exists_some2, exists_pair2, Nat.zero_le, le_line1, le_line2, le_line3, le_line4, le_line5, le_line6, le_line7, le_line8, le_line9, le_line10, le_line11, le_line12, wipeE_nil, wipeE_cons, MObj.toP, fin_d, fin_new, Seq_nx, Seq_bk, Seq_ct, Seq_rt, Br_true, Br_false, decide_true, decide_false, Bool.not_true, Bool.not_false, e0, srt_strs, iVal_list]
  refine for_list (fun i ρ M' => M' = M ∧ ∃ (zs : List (List Str)) (a2 a3 : Option D), ρ = [some (.p (.list (gr.map .str))), some (.p (.list (zs.map tm))), a2, a3] ∧ zs.length = 2 ^ i ∧ (∀ z ∈ zs, z.Nodup ∧ z.length ≤ i ∧ ∀ x ∈ z, x ∈ (srt gr).take i) ∧ ∀ j, j ≤ i → (srt gr).take j ∈ zs)
    (by rw [List.length_map, hs, sizeLine_eq]; omega) ⟨rfl, [[]], _, _, rfl, rfl, by simp, fun j hj => by simp [Nat.le_zero.mp hj]⟩ ?_ ?_
  · intro i x ρ M' hx hI
    obtain ⟨e1, zs, a2, a3, e2, hz, hall, hj⟩ := hI
    subst e1
    subst e2
    rw [List.getElem?_map] at hx
    obtain ⟨nm, e1, e3⟩ := Option.map_eq_some_iff.mp hx
    subst e3
    have hil : i < (srt gr).length := (List.getElem?_eq_some_iff.mp e1).1
    have tk : (srt gr).take (i + 1) = (srt gr).take i ++ [nm] := by rw [List.take_add_one, e1]; rfl
    have pw : 2 ^ i ≤ 2 ^ 6 := Nat.pow_le_pow_right (by decide) (by omega)
    have zl : zs.length ≤ 64 := by rw [hz]; exact pw
    have nin : nm ∉ (srt gr).take i := by
      intro hm
      have := hsn.sublist (List.take_sublist (i + 1) (srt gr))
      rw [tk, List.nodup_append] at this
      exact this.2.2 nm hm nm (List.mem_singleton.mpr rfl) rfl
    simp only [ok_eBin, ok_eUn, ok_eVar, ok_eD, ok_eIf, ok_tVal, ok_tNot, ok_tAnd, ok_tOr, ok_tTrue, ok_aNil, ok_aCons, ok_eTup, ok_eLst, ok_eCallB, ok_eSl, ok_oNone, ok_oSome, ok_eNot, ok_eAnd, ok_eOr, ok_eAl, ok_eCallU, ok_eMth, ok_sSeq, ok_sNx, ok_sBk, ok_sCt, ok_sDrop, ok_sRet, ok_sRetN, ok_sIf, ok_sSet, ok_sPar, ok_sSto, ok_sFor, ok_iE, ok_iRg, ok_eLc, ok_defF, ok_eDisp, ok_eDNew, pair_nil, pair_cons, Turn_nx, Turn_ct, Turn_bk, Turn_rt, List.take_length, startE, List.map_cons, List.map_nil, Nat.reduceSub, List.replicate_succ, List.replicate_zero, List.append_nil, Ok_ok, Ok_bad, Ok_err, Ok_ne, Ok_stl, List.getElem?_cons_zero, List.getElem?_cons_succ, List.set_cons_zero, List.set_cons_succ, Option.some.injEq, exists_eq_left', exists_eq_left, Ev.stl_d, Ev.stl_new, pv_p, pur_p, purs_nil, purs_p, onP_p, ii_int, Option.map_some, Option.bind_some, D.p.injEq, PyData.int.injEq, PyData.bool.injEq, PyData.str.injEq, PyData.tuple.injEq, PyData.list.injEq, Bool.false_eq_true, if_false, if_true, exists_two, and_true, true_and, and_self, dAdd_int, planD_nil, planD_at, planD_df, List.length_cons, List.length_nil, List.nil_append, List.cons_append, Nat.zero_add, Nat.reduceAdd, exists_some2, exists_pair2, Nat.zero_le, le_line1, le_line2, le_line3, le_line4, le_line5, le_line6, le_line7, le_line8, le_line9, le_line10, le_line11, le_line12, wipeE_nil, wipeE_cons, MObj.toP, fin_d, fin_new, Seq_nx, Seq_bk, Seq_ct, Seq_rt, Br_true, Br_false, decide_true, decide_false, Bool.not_true, Bool.not_false, iVal_list]
    refine lc_map zs tm (fun z => z ++ [nm]) tm (by rw [sizeLine_eq]; omega) (fun z hzm => ?_) ?_
    · have : z.length ≤ 10 := by have := (hall z hzm).2.1; omega
      simp only [ok_eBin, ok_eUn, ok_eVar, ok_eD, ok_eIf, ok_tVal, ok_tNot, ok_tAnd, ok_tOr, ok_tTrue, ok_aNil, ok_aCons, ok_eTup, ok_eLst, ok_eCallB, ok_eSl, ok_oNone, ok_oSome, ok_eNot, ok_eAnd, ok_eOr, ok_eAl, ok_eCallU, ok_eMth, ok_sSeq, ok_sNx, ok_sBk, ok_sCt, ok_sDrop, ok_sRet, ok_sRetN, ok_sIf, ok_sSet, ok_sPar, ok_sSto, ok_sFor, ok_iE, ok_iRg, ok_eLc, ok_defF, ok_eDisp, ok_eDNew, pair_nil, pair_cons, Turn_nx, Turn_ct, Turn_bk, Turn_rt, List.take_length, startE, List.map_cons, List.map_nil, Nat.reduceSub, List.replicate_succ, List.replicate_zero, List.append_nil, Ok_ok, Ok_bad, Ok_err, Ok_ne, Ok_stl, List.getElem?_cons_zero, List.getElem?_cons_succ, List.set_cons_zero, List.set_cons_succ, Option.some.injEq, exists_eq_left', exists_eq_left, Ev.stl_d, Ev.stl_new, pv_p, pur_p, purs_nil, purs_p, onP_p, ii_int, Option.map_some, Option.bind_some, D.p.injEq, PyData.int.injEq, PyData.bool.injEq, PyData.str.injEq, PyData.tuple.injEq, PyData.list.injEq, Bool.false_eq_true, if_false, if_true, exists_two, and_true, true_and, and_self, dAdd_int, planD_nil, planD_at, planD_df, List.length_cons, List.length_nil, List.nil_append, List.cons_append, Nat.zero_add, Nat.reduceAdd, exists_some2, exists_pair2, Nat.zero_le, le_line1, le_line2, le_line3, le_line4, le_line5, le_line6, le_line7, le_line8, le_line9, le_line10, le_line11, le_line12, wipeE_nil, wipeE_cons, MObj.toP, fin_d, fin_new, Seq_nx, Seq_bk, Seq_ct, Seq_rt, Br_true, Br_false, decide_true, decide_false, Bool.not_true, Bool.not_false, str_in, tm_add this]
    · have la : (zs.map tm).length + ((zs.map fun z => z ++ [nm]).map tm).length ≤ sizeLine := by rw [List.length_map, List.length_map, List.length_map, sizeLine_eq]; omega
      simp only [ok_eBin, ok_eUn, ok_eVar, ok_eD, ok_eIf, ok_tVal, ok_tNot, ok_tAnd, ok_tOr, ok_tTrue, ok_aNil, ok_aCons, ok_eTup, ok_eLst, ok_eCallB, ok_eSl, ok_oNone, ok_oSome, ok_eNot, ok_eAnd, ok_eOr, ok_eAl, ok_eCallU, ok_eMth, ok_sSeq, ok_sNx, ok_sBk, ok_sCt, ok_sDrop, ok_sRet, ok_sRetN, ok_sIf, ok_sSet, ok_sPar, ok_sSto, ok_sFor, ok_iE, ok_iRg, ok_eLc, ok_defF, ok_eDisp, ok_eDNew, pair_nil, pair_cons, Turn_nx, Turn_ct, Turn_bk, Turn_rt, List.take_length, startE, List.map_cons, List.map_nil, Nat.reduceSub, List.replicate_succ, List.replicate_zero, List.append_nil, Ok_ok, Ok_bad, Ok_err, Ok_ne, Ok_stl, List.getElem?_cons_zero, List.getElem?_cons_succ, List.set_cons_zero, List.set_cons_succ, Option.some.injEq, exists_eq_left', exists_eq_left, Ev.stl_d, Ev.stl_new, pv_p, pur_p, purs_nil, purs_p, onP_p, ii_int, Option.map_some, Option.bind_some, D.p.injEq, PyData.int.injEq, PyData.bool.injEq, PyData.str.injEq, PyData.tuple.injEq, PyData.list.injEq, Bool.false_eq_true, if_false, if_true, exists_two, and_true, true_and, and_self, dAdd_int, planD_nil, planD_at, planD_df, List.length_cons, List.length_nil, List.nil_append, List.cons_append, Nat.zero_add, Nat.reduceAdd, exists_some2, exists_pair2, Nat.zero_le, le_line1, le_line2, le_line3, le_line4, le_line5, le_line6, le_line7, le_line8, le_line9, le_line10, le_line11, le_line12, wipeE_nil, wipeE_cons, MObj.toP, fin_d, fin_new, Seq_nx, Seq_bk, Seq_ct, Seq_rt, Br_true, Br_false, decide_true, decide_false, Bool.not_true, Bool.not_false, dAdd_list la]
      refine ⟨zs ++ zs.map fun z => z ++ [nm], _, _, by rw [List.map_append], by rw [List.length_append, List.length_map, hz, Nat.pow_succ]; omega, fun z hzm => ?_, fun j hji => ?_⟩
      · rw [tk]
        rcases List.mem_append.mp hzm with h1 | h1
        · obtain ⟨p1, p2, p3⟩ := hall z h1
          exact ⟨p1, by omega, fun x hx => List.mem_append_left _ (p3 x hx)⟩
        · obtain ⟨y, hy, rfl⟩ := List.mem_map.mp h1
          obtain ⟨p1, p2, p3⟩ := hall y hy
          refine ⟨List.nodup_append.mpr ⟨p1, by simp, fun a ha b hb e => ?_⟩, by simp; omega, fun x hx => ?_⟩
          · rw [List.mem_singleton.mp hb] at e
            exact nin (e ▸ p3 a ha)
          · rcases List.mem_append.mp hx with h2 | h2
            · exact List.mem_append_left _ (p3 x h2)
            · exact List.mem_append_right _ h2
      · by_cases hj2 : j ≤ i
        · exact List.mem_append_left _ (hj j hj2)
        · have : j = i + 1 := by omega
          rw [this, tk]
          exact List.mem_append_right _ (List.mem_map.mpr ⟨_, hj i (Nat.le_refl _), rfl⟩)
  · intro ρ M' hI
    obtain ⟨e1, zs, a2, a3, e2, hz, hall, hj⟩ := hI
    subst e1
    subst e2
    rw [List.length_map, hs] at hz hall hj
    obtain ⟨ws, e3, hp⟩ := srtLen_tms zs
    simp only [ok_eBin, ok_eUn, ok_eVar, ok_eD, ok_eIf, ok_tVal, ok_tNot, ok_tAnd, ok_tOr, ok_tTrue, ok_aNil, ok_aCons, ok_eTup, ok_eLst, ok_eCallB, ok_eSl, ok_oNone, ok_oSome, ok_eNot, ok_eAnd, ok_eOr, ok_eAl, ok_eCallU, ok_eMth, ok_sSeq, ok_sNx, ok_sBk, ok_sCt, ok_sDrop, ok_sRet, ok_sRetN, ok_sIf, ok_sSet, ok_sPar, ok_sSto, ok_sFor, ok_iE, ok_iRg, ok_eLc, ok_defF, ok_eDisp, ok_eDNew, pair_nil, pair_cons, Turn_nx, Turn_ct, Turn_bk, Turn_rt, List.take_length, startE, List.map_cons, List.map_nil, Nat.reduceSub, List.replicate_succ, List.replicate_zero, List.append_nil, Ok_ok, Ok_bad, Ok_err, Ok_ne, Ok_stl, List.getElem?_cons_zero, List.getElem?_cons_succ, List.set_cons_zero, List.set_cons_succ, Option.some.injEq, exists_eq_left', exists_eq_left, Ev.stl_d, Ev.stl_new, pv_p, pur_p, purs_nil, purs_p, onP_p, ii_int, Option.map_some, Option.bind_some, D.p.injEq, PyData.int.injEq, PyData.bool.injEq, PyData.str.injEq, PyData.tuple.injEq, PyData.list.injEq, Bool.false_eq_true, if_false, if_true, exists_two, and_true, true_and, and_self, dAdd_int, planD_nil, planD_at, planD_df, List.length_cons, List.length_nil, List.nil_append, List.cons_append, Nat.zero_add, Nat.reduceAdd, exists_some2, exists_pair2, Nat.zero_le, le_line1, le_line2, le_line3, le_line4, le_line5, le_line6, le_line7, le_line8, le_line9, le_line10, le_line11, le_line12, wipeE_nil, wipeE_cons, MObj.toP, fin_d, fin_new, Seq_nx, Seq_bk, Seq_ct, Seq_rt, Br_true, Br_false, decide_true, decide_false, Bool.not_true, Bool.not_false, ok_eSrtLen, seqP_list, okLen_tms, e3]
    refine h ws (by rw [hp.length_eq, hz]) (fun w hw => ?_) fun j hj2 => ⟨(srt gr).take j, hp.mem_iff.mpr (hj j hj2), by rw [List.length_take]; omega⟩
    obtain ⟨p1, p2, p3⟩ := hall w (hp.mem_iff.mp hw)
    exact ⟨p1, p2, fun x hx => mem_srt.mp (List.mem_of_mem_take (p3 x hx))⟩
end LK49

set_option Elab.async false
set_option linter.all false
set_option maxRecDepth 100000
namespace LK49
open PySem PySem.Spec PyProof.Rows L2 Cb
open PySem.W (Datum DatumOrd Tup)

theorem onP_obj {g : P → P → Option P} {n : Nat} {M : Mem} {xs : List P} {y : P} (h : M[n]? = some (.lst xs)) : onP g (.obj n) (.p y) M = (g (.list xs) y).map fun z => .d (.p z) := by
  simp only [onP, pv_obj h, pv_p]
theorem ne_nil (l : List Str) : gNe (.list (l.map .str)) (.list []) = some (.bool (!decide (l = []))) := gNe_toD (α := List Str) (by decide) l []
/-- a list, in the open or kept behind -/
def Lsy (d : D) (L : Nat) (R : Mem) (xs : List P) : Prop := d = .p (.list xs) ∨ ∃ j, d = .obj (L + 1 + j) ∧ R[j]? = some (.lst xs)
theorem at_R (M0 : Mem) (o : MObj) (R : Mem) (j : Nat) : (M0 ++ o :: R)[M0.length + 1 + j]? = R[j]? := by
  rw [List.getElem?_append_right (by omega), show M0.length + 1 + j - M0.length = j + 1 from by omega, List.getElem?_cons_succ]
theorem Lsy.it {d : D} {R : Mem} {xs : List P} {M0 : Mem} {o : MObj} (h : Lsy d M0.length R xs) (R' : Mem) : ∃ st, iVal d (M0 ++ o :: R ++ R') = some st ∧ ∀ (N : Mem) (o' : MObj) (R2 : Mem) (i : Nat), N.length = M0.length → st i (N ++ o' :: R ++ R2) = some xs[i]? := by
  rcases h with rfl | ⟨j, rfl, hj⟩
  · exact ⟨stL xs, rfl, fun _ _ _ _ _ => rfl⟩
  · have hjl := (List.getElem?_eq_some_iff.mp hj).1
    have key : ∀ (N : Mem) (o' : MObj) (R2 : Mem), N.length = M0.length → (N ++ o' :: R ++ R2)[M0.length + 1 + j]? = some (.lst xs) := by
      intro N o' R2 hN
      rw [← hN, List.append_assoc, List.cons_append, at_R, List.getElem?_append_left hjl, hj]
    refine ⟨stO (M0.length + 1 + j), ?_, fun N o' R2 i hN => ?_⟩
    · unfold iVal
      simp only
      rw [key M0 o R' rfl]
    · unfold stO
      rw [key N o' R2 hN]
theorem Lsy.seq {d : D} {R : Mem} {xs : List P} {M0 : Mem} {o : MObj} (h : Lsy d M0.length R xs) : seqP d (M0 ++ o :: R) = some xs := by
  rcases h with rfl | ⟨j, rfl, hj⟩
  · rfl
  · exact seqP_obj (by rw [at_R, hj])
/-- what holds of the teams under way -/
structure UW (most : Nat) (rest : List Str) (xss : List (List Str)) : Prop where
  sz : xss.length * 2 ^ rest.length ≤ 2 ^ most
  some : xss ≠ []
  rs : rest.Nodup ∧ (∀ x ∈ rest, x ∈ NM) ∧ rest.length ≤ most
  team : ∀ xs ∈ xss, xs.Nodup ∧ xs.length + rest.length ≤ most ∧ (∀ x ∈ xs, x ∈ NM ∧ x ∉ rest) ∧ (rest.length = most ∨ xs ≠ [])
theorem bSrt_tm (xs : List Str) (M : Mem) : bSrt [.p (tm xs)] M = some (.new (.lst ((srt xs).map .str)), M) := srt_strsT xs M
theorem tm_addT {xs ys : List Str} (h : xs.length + ys.length ≤ 10) (M : Mem) : dAdd (.p (tm xs)) (.p (tm ys)) M = some (.d (.p (tm (xs ++ ys)))) := by
  rw [tm, tm, tm, List.map_append]
  exact dAdd_tuple (by rw [List.length_map, List.length_map, sizeLine_eq]; omega) M
theorem UW.next {most : Nat} {rs gs rest : List Str} {xss : List (List Str)} {ws : List (List Str)} (u : UW most rest xss) (hm : most ≤ 5) (hp : rest = rs ++ gs.reverse) (hg : 1 ≤ gs.length) {a : Nat} (ha1 : 1 ≤ a)
    (hw1 : ws.length ≤ 2 ^ gs.length) (hw2 : ws ≠ []) (hw : ∀ w ∈ ws, w.Nodup ∧ w.length ≤ gs.length ∧ w.length = a ∧ ∀ x ∈ w, x ∈ gs) :
    UW most rs (xss.flatMap fun xs => ws.map fun w => srt (xs ++ w)) := by
  have hl : rest.length = rs.length + gs.length := by rw [hp]; simp
  obtain ⟨r1, r2, r3⟩ := u.rs
  rw [hp, List.nodup_append] at r1
  obtain ⟨n1, n2, n3⟩ := r1
  have ln : (xss.flatMap fun xs => ws.map fun w => srt (xs ++ w)).length = xss.length * ws.length := by
    rw [List.length_flatMap]
    simp only [List.length_map]
    clear u
    induction xss with
    | nil => simp
    | cons x r ih => simp [Nat.succ_mul, Nat.add_comm]; exact ih
  refine ⟨?_, ?_, ⟨n1, fun x hx => r2 x (by rw [hp]; exact List.mem_append_left _ hx), by omega⟩, ?_⟩
  · rw [ln]
    have := u.sz
    rw [hl, Nat.pow_add, Nat.mul_comm (2 ^ rs.length), ← Nat.mul_assoc] at this
    exact Nat.le_trans (Nat.mul_le_mul_right _ (Nat.mul_le_mul_left _ hw1)) this
  · intro e
    have := congrArg List.length e
    rw [ln] at this
    have h1 := List.length_pos_iff.mpr u.some
    have h2 := List.length_pos_iff.mpr hw2
    have := Nat.mul_pos h1 h2
    simp at *
    omega
  · intro z hz
    obtain ⟨xs, hxs, hz⟩ := List.mem_flatMap.mp hz
    obtain ⟨w, hww, rfl⟩ := List.mem_map.mp hz
    obtain ⟨t1, t2, t3, t4⟩ := u.team xs hxs
    obtain ⟨w1, w2, w3, w4⟩ := hw w hww
    have wr : ∀ x ∈ w, x ∈ rest := fun x hx => by rw [hp]; exact List.mem_append_right _ (List.mem_reverse.mpr (w4 x hx))
    refine ⟨srt_nodup.mpr (List.nodup_append.mpr ⟨t1, w1, fun x hx y hy e => ?_⟩), ?_, fun x hx => ?_, .inr fun e => ?_⟩
    · subst e
      exact (t3 x hx).2 (wr x hy)
    · rw [srt_length, List.length_append]; omega
    · rw [mem_srt, List.mem_append] at hx
      rcases hx with hx | hx
      · exact ⟨(t3 x hx).1, fun h => (t3 x hx).2 (by rw [hp]; exact List.mem_append_left _ h)⟩
      · exact ⟨r2 x (wr x hx), fun h => n3 x h x (List.mem_reverse.mpr (w4 x hx)) rfl⟩
    · have := srt_length (xs ++ w)
      rw [e, List.length_append] at this
      simp at this
      omega
end LK49

set_option Elab.async false
set_option linter.all false
set_option maxRecDepth 100000
namespace LK49
open PySem PySem.Spec PyProof.Rows L2 Cb
open PySem.W (Datum DatumOrd Tup)

theorem len_tm (xs : List Str) (M : Mem) : bLen [.p (tm xs)] M = some (.d (.p (.int xs.length)), M) := by
  rw [tm, Cb.len_tuple, List.length_map]
theorem flat_take {α β : Type} (xs : List α) (f : α → List β) {i : Nat} (h : i < xs.length) : (xs.take (i + 1)).flatMap f = (xs.take i).flatMap f ++ f xs[i] := by
  rw [← List.take_append_getElem h, List.flatMap_append]
  simp
theorem flat_len {α β : Type} (xs : List α) (f : α → List β) (n : Nat) (h : ∀ x ∈ xs, (f x).length = n) : (xs.flatMap f).length = xs.length * n := by
  induction xs with
  | nil => simp
  | cons x r ih =>
    rw [List.flatMap_cons, List.length_append, h x (List.mem_cons_self ..), ih fun y hy => h y (List.mem_cons_of_mem _ hy), List.length_cons, Nat.succ_mul, Nat.add_comm]
set_option maxHeartbeats 1000000 in
theorem make_good_ok {M : Mem} {n b most : Nat} {Q : Ev → Mem → Prop} (f : Fd M n b) (hb : b < 900000) (hm1 : 1 ≤ most) (hm : most ≤ 5)
    (h : ∀ (xss : List (List Str)) (M' : Mem), GT xss → xss ≠ [] → Fd M' n (b + 100) → Mo n M M' → Q (.d (.p (tms xss))) M') : Ok (fs__law_make_good [.obj n, .p (.int (most : Int))] M) Q := by
  unfold fs__law_make_good φ__law_make_good
  simp only [ok_eBin, ok_eUn, ok_eVar, ok_eD, ok_eIf, ok_tVal, ok_tNot, ok_tAnd, ok_tOr, ok_tTrue, ok_aNil, ok_aCons, ok_eTup, ok_eLst, ok_eCallB, ok_eSl, ok_oNone, ok_oSome, ok_eNot, ok_eAnd, ok_eOr, ok_eAl, ok_eCallU, ok_eMth, ok_sSeq, ok_sNx, ok_sBk, ok_sCt, ok_sDrop, ok_sRet, ok_sRetN, ok_sIf, ok_sSet, ok_sPar, ok_sSto, ok_sFor, ok_iE, ok_iRg, ok_eLc, ok_defF, ok_eDisp, ok_eDNew, pair_nil, pair_cons, Turn_nx, Turn_ct, Turn_bk, Turn_rt, List.take_length, startE, List.map_cons, List.map_nil, Nat.reduceSub, List.replicate_succ, List.replicate_zero, List.append_nil, Ok_ok, Ok_bad, Ok_err, Ok_ne, Ok_stl, List.getElem?_cons_zero, List.getElem?_cons_succ, List.set_cons_zero, List.set_cons_succ, Option.some.injEq, exists_eq_left', exists_eq_left, Ev.stl_d, Ev.stl_new, pv_p, pur_p, purs_nil, purs_p, onP_p, ii_int, Option.map_some, Option.bind_some, D.p.injEq, PyData.int.injEq, PyData.bool.injEq, PyData.str.injEq, PyData.tuple.injEq, PyData.list.injEq, Bool.false_eq_true, if_false, if_true, exists_two, and_true, true_and, and_self, dAdd_int, planD_nil, planD_at, planD_df, List.length_cons, List.length_nil, List.nil_append, List.cons_append, Nat.zero_add, Nat.reduceAdd, exists_some2, exists_pair2, Nat.zero_le, le_line1, le_line2, le_line3, le_line4, le_line5, le_line6, le_line7, le_line8, le_line9, le_line10, le_line11, le_line12, wipeE_nil, wipeE_cons, MObj.toP, fin_d, fin_new, Seq_nx, Seq_bk, Seq_ct, Seq_rt, Br_true, Br_false, decide_true, decide_false, Bool.not_true, Bool.not_false, NMlist]
  refine sample_ok f (by omega) (by decide) (by show most ≤ 6; omega) fun folk rest0 M1 hl hp f1 m1 => ?_
  obtain ⟨fn, fm⟩ := nodup_of hp NM_nodup
  have kl : M.length = M1.length := m1.1.symm
  have e0 : PyData.list [.tuple []] = .list (([[]] : List (List Str)).map tm) := rfl
  simp only [ok_eBin, ok_eUn, ok_eVar, ok_eD, ok_eIf, ok_tVal, ok_tNot, ok_tAnd, ok_tOr, ok_tTrue, ok_aNil, ok_aCons, ok_eTup, ok_eLst, ok_eCallB, ok_eSl, ok_oNone, ok_oSome, ok_eNot, ok_eAnd, ok_eOr, ok_eAl, ok_eCallU, ok_eMth, ok_sSeq, ok_sNx, ok_sBk, ok_sCt, ok_sDrop, ok_sRet, ok_sRetN, ok_sIf, ok_sSet, ok_sPar, ok_sSto, ok_sFor, ok_iE, ok_iRg, ok_eLc, ok_defF, ok_eDisp, ok_eDNew, pair_nil, pair_cons, Turn_nx, Turn_ct, Turn_bk, Turn_rt, List.take_length, startE, List.map_cons, List.map_nil, Nat.reduceSub, List.replicate_succ, List.replicate_zero, List.append_nil, Ok_ok, Ok_bad, Ok_err, Ok_ne, Ok_stl, List.getElem?_cons_zero, List.getElem?_cons_succ, List.set_cons_zero, List.set_cons_succ, Option.some.injEq, exists_eq_left', exists_eq_left, Ev.stl_d, Ev.stl_new, pv_p, pur_p, purs_nil, purs_p, onP_p, ii_int, Option.map_some, Option.bind_some, D.p.injEq, PyData.int.injEq, PyData.bool.injEq, PyData.str.injEq, PyData.tuple.injEq, PyData.list.injEq, Bool.false_eq_true, if_false, if_true, exists_two, and_true, true_and, and_self, dAdd_int, planD_nil, planD_at, planD_df, List.length_cons, List.length_nil, List.nil_append, List.cons_append, Nat.zero_add, Nat.reduceAdd, exists_some2, exists_pair2, Nat.zero_le, le_line1, le_line2, le_line3, le_line4, le_line5, le_line6, le_line7, le_line8, le_line9, le_line10, le_line11, le_line12, wipeE_nil, wipeE_cons, MObj.toP, fin_d, fin_new, Seq_nx, Seq_bk, Seq_ct, Seq_rt, Br_true, Br_false, decide_true, decide_false, Bool.not_true, Bool.not_false, e0]
  refine wh_ok (fun m ρ M' => ∃ (rest : List Str) (M0 R : Mem) (d : D) (xss : List (List Str)) (a4 a5 a6 a7 a8 a9 a10 : Option D), ρ = [some (.obj n), some (.p (.int (most : Int))), some (.obj M0.length), some d, a4, a5, a6, a7, a8, a9, a10] ∧ M' = M0 ++ .lst (rest.map .str) :: R ∧ rest.length = m ∧ Lsy d M0.length R (xss.map tm) ∧ UW most rest xss ∧ Fd M0 n (b + 30 - 2 * m) ∧ Mo n M M0)
    most (by rw [sizeLine_eq]; omega) ⟨folk, M1, [], _, [[]], _, _, _, _, _, _, _, rfl, rfl, hl, .inl rfl, ⟨by rw [hl]; simp, by simp, ⟨fn, fm, by omega⟩, fun xs hxs => ?_⟩, f1.mono (by omega), m1⟩ ?_
  · rw [List.mem_singleton.mp hxs]
    exact ⟨by simp, by simp; omega, by simp, .inl hl⟩
  · intro m ρ M' hI
    obtain ⟨rest, M0, R, d, xss, a4, a5, a6, a7, a8, a9, a10, e1, e2, hm2, hd, u, f2, m2⟩ := hI
    subst e1
    subst e2
    have kl0 : M.length = M0.length := m2.1.symm
    have rl := u.rs.2.2
    simp only [ok_eBin, ok_eUn, ok_eVar, ok_eD, ok_eIf, ok_tVal, ok_tNot, ok_tAnd, ok_tOr, ok_tTrue, ok_aNil, ok_aCons, ok_eTup, ok_eLst, ok_eCallB, ok_eSl, ok_oNone, ok_oSome, ok_eNot, ok_eAnd, ok_eOr, ok_eAl, ok_eCallU, ok_eMth, ok_sSeq, ok_sNx, ok_sBk, ok_sCt, ok_sDrop, ok_sRet, ok_sRetN, ok_sIf, ok_sSet, ok_sPar, ok_sSto, ok_sFor, ok_iE, ok_iRg, ok_eLc, ok_defF, ok_eDisp, ok_eDNew, pair_nil, pair_cons, Turn_nx, Turn_ct, Turn_bk, Turn_rt, List.take_length, startE, List.map_cons, List.map_nil, Nat.reduceSub, List.replicate_succ, List.replicate_zero, List.append_nil, Ok_ok, Ok_bad, Ok_err, Ok_ne, Ok_stl, List.getElem?_cons_zero, List.getElem?_cons_succ, List.set_cons_zero, List.set_cons_succ, Option.some.injEq, exists_eq_left', exists_eq_left, Ev.stl_d, Ev.stl_new, pv_p, pur_p, purs_nil, purs_p, onP_p, ii_int, Option.map_some, Option.bind_some, D.p.injEq, PyData.int.injEq, PyData.bool.injEq, PyData.str.injEq, PyData.tuple.injEq, PyData.list.injEq, Bool.false_eq_true, if_false, if_true, exists_two, and_true, true_and, and_self, dAdd_int, planD_nil, planD_at, planD_df, List.length_cons, List.length_nil, List.nil_append, List.cons_append, Nat.zero_add, Nat.reduceAdd, exists_some2, exists_pair2, Nat.zero_le, le_line1, le_line2, le_line3, le_line4, le_line5, le_line6, le_line7, le_line8, le_line9, le_line10, le_line11, le_line12, wipeE_nil, wipeE_cons, MObj.toP, fin_d, fin_new, Seq_nx, Seq_bk, Seq_ct, Seq_rt, Br_true, Br_false, decide_true, decide_false, Bool.not_true, Bool.not_false, onP_obj (at_len M0 _ R), ne_nil]
    cases hr0 : decide (rest = []) with
    | true =>
      have hr : rest = [] := by simpa using hr0
      subst hr
      have e4 : bSrt [d] (M0 ++ .lst ([].map PyData.str) :: R) = some (.new (.lst ((srtT xss).map tm)), M0 ++ .lst ([].map PyData.str) :: R) := bSrt_teams hd.seq fun xs hxs => by
        rcases (u.team xs hxs).2.2.2 with h1 | h1
        · simp at h1; omega
        · exact h1
      simp only [ok_eBin, ok_eUn, ok_eVar, ok_eD, ok_eIf, ok_tVal, ok_tNot, ok_tAnd, ok_tOr, ok_tTrue, ok_aNil, ok_aCons, ok_eTup, ok_eLst, ok_eCallB, ok_eSl, ok_oNone, ok_oSome, ok_eNot, ok_eAnd, ok_eOr, ok_eAl, ok_eCallU, ok_eMth, ok_sSeq, ok_sNx, ok_sBk, ok_sCt, ok_sDrop, ok_sRet, ok_sRetN, ok_sIf, ok_sSet, ok_sPar, ok_sSto, ok_sFor, ok_iE, ok_iRg, ok_eLc, ok_defF, ok_eDisp, ok_eDNew, pair_nil, pair_cons, Turn_nx, Turn_ct, Turn_bk, Turn_rt, List.take_length, startE, List.map_cons, List.map_nil, Nat.reduceSub, List.replicate_succ, List.replicate_zero, List.append_nil, Ok_ok, Ok_bad, Ok_err, Ok_ne, Ok_stl, List.getElem?_cons_zero, List.getElem?_cons_succ, List.set_cons_zero, List.set_cons_succ, Option.some.injEq, exists_eq_left', exists_eq_left, Ev.stl_d, Ev.stl_new, pv_p, pur_p, purs_nil, purs_p, onP_p, ii_int, Option.map_some, Option.bind_some, D.p.injEq, PyData.int.injEq, PyData.bool.injEq, PyData.str.injEq, PyData.tuple.injEq, PyData.list.injEq, Bool.false_eq_true, if_false, if_true, exists_two, and_true, true_and, and_self, dAdd_int, planD_nil, planD_at, planD_df, List.length_cons, List.length_nil, List.nil_append, List.cons_append, Nat.zero_add, Nat.reduceAdd, exists_some2, exists_pair2, Nat.zero_le, le_line1, le_line2, le_line3, le_line4, le_line5, le_line6, le_line7, le_line8, le_line9, le_line10, le_line11, le_line12, wipeE_nil, wipeE_cons, MObj.toP, fin_d, fin_new, Seq_nx, Seq_bk, Seq_ct, Seq_rt, Br_true, Br_false, decide_true, decide_false, Bool.not_true, Bool.not_false] at e4
      simp only [ok_eBin, ok_eUn, ok_eVar, ok_eD, ok_eIf, ok_tVal, ok_tNot, ok_tAnd, ok_tOr, ok_tTrue, ok_aNil, ok_aCons, ok_eTup, ok_eLst, ok_eCallB, ok_eSl, ok_oNone, ok_oSome, ok_eNot, ok_eAnd, ok_eOr, ok_eAl, ok_eCallU, ok_eMth, ok_sSeq, ok_sNx, ok_sBk, ok_sCt, ok_sDrop, ok_sRet, ok_sRetN, ok_sIf, ok_sSet, ok_sPar, ok_sSto, ok_sFor, ok_iE, ok_iRg, ok_eLc, ok_defF, ok_eDisp, ok_eDNew, pair_nil, pair_cons, Turn_nx, Turn_ct, Turn_bk, Turn_rt, List.take_length, startE, List.map_cons, List.map_nil, Nat.reduceSub, List.replicate_succ, List.replicate_zero, List.append_nil, Ok_ok, Ok_bad, Ok_err, Ok_ne, Ok_stl, List.getElem?_cons_zero, List.getElem?_cons_succ, List.set_cons_zero, List.set_cons_succ, Option.some.injEq, exists_eq_left', exists_eq_left, Ev.stl_d, Ev.stl_new, pv_p, pur_p, purs_nil, purs_p, onP_p, ii_int, Option.map_some, Option.bind_some, D.p.injEq, PyData.int.injEq, PyData.bool.injEq, PyData.str.injEq, PyData.tuple.injEq, PyData.list.injEq, Bool.false_eq_true, if_false, if_true, exists_two, and_true, true_and, and_self, dAdd_int, planD_nil, planD_at, planD_df, List.length_cons, List.length_nil, List.nil_append, List.cons_append, Nat.zero_add, Nat.reduceAdd, exists_some2, exists_pair2, Nat.zero_le, le_line1, le_line2, le_line3, le_line4, le_line5, le_line6, le_line7, le_line8, le_line9, le_line10, le_line11, le_line12, wipeE_nil, wipeE_cons, MObj.toP, fin_d, fin_new, Seq_nx, Seq_bk, Seq_ct, Seq_rt, Br_true, Br_false, decide_true, decide_false, Bool.not_true, Bool.not_false, e4, tup_list, kl0, take_len]
      have pw : 2 ^ most ≤ 2 ^ 5 := Nat.pow_le_pow_right (by decide) hm
      have sz := u.sz
      simp at sz
      have g : GT xss := ⟨by omega, fun xs hxs => by
        obtain ⟨t1, t2, t3, t4⟩ := u.team xs hxs
        refine ⟨?_, by omega, t1, fun x hx => (t3 x hx).1⟩
        rcases t4 with h1 | h1
        · simp at h1; omega
        · exact h1⟩
      refine h (srtT xss) M0 g.srt (fun z => ?_) (f2.mono (by omega)) m2
      have := (srtT_perm xss).length_eq
      rw [z] at this
      exact u.some (List.length_eq_zero_iff.mp this.symm)
    | false =>
      have hr : rest ≠ [] := by simpa using hr0
      have hrl := List.length_pos_iff.mpr hr
      simp only [ok_eBin, ok_eUn, ok_eVar, ok_eD, ok_eIf, ok_tVal, ok_tNot, ok_tAnd, ok_tOr, ok_tTrue, ok_aNil, ok_aCons, ok_eTup, ok_eLst, ok_eCallB, ok_eSl, ok_oNone, ok_oSome, ok_eNot, ok_eAnd, ok_eOr, ok_eAl, ok_eCallU, ok_eMth, ok_sSeq, ok_sNx, ok_sBk, ok_sCt, ok_sDrop, ok_sRet, ok_sRetN, ok_sIf, ok_sSet, ok_sPar, ok_sSto, ok_sFor, ok_iE, ok_iRg, ok_eLc, ok_defF, ok_eDisp, ok_eDNew, pair_nil, pair_cons, Turn_nx, Turn_ct, Turn_bk, Turn_rt, List.take_length, startE, List.map_cons, List.map_nil, Nat.reduceSub, List.replicate_succ, List.replicate_zero, List.append_nil, Ok_ok, Ok_bad, Ok_err, Ok_ne, Ok_stl, List.getElem?_cons_zero, List.getElem?_cons_succ, List.set_cons_zero, List.set_cons_succ, Option.some.injEq, exists_eq_left', exists_eq_left, Ev.stl_d, Ev.stl_new, pv_p, pur_p, purs_nil, purs_p, onP_p, ii_int, Option.map_some, Option.bind_some, D.p.injEq, PyData.int.injEq, PyData.bool.injEq, PyData.str.injEq, PyData.tuple.injEq, PyData.list.injEq, Bool.false_eq_true, if_false, if_true, exists_two, and_true, true_and, and_self, dAdd_int, planD_nil, planD_at, planD_df, List.length_cons, List.length_nil, List.nil_append, List.cons_append, Nat.zero_add, Nat.reduceAdd, exists_some2, exists_pair2, Nat.zero_le, le_line1, le_line2, le_line3, le_line4, le_line5, le_line6, le_line7, le_line8, le_line9, le_line10, le_line11, le_line12, wipeE_nil, wipeE_cons, MObj.toP, fin_d, fin_new, Seq_nx, Seq_bk, Seq_ct, Seq_rt, Br_true, Br_false, decide_true, decide_false, Bool.not_true, Bool.not_false, len_obj (at_len M0 _ R), List.length_map]
      refine draw_go f2.app (by omega) (by decide) (by decide) fun v M3' h0 h1 f3 m3 => ?_
      obtain ⟨M3, rfl, m3, f3⟩ := m3.split f2.lt f3
      have kl3 : M0.length = M3.length := m3.1.symm
      simp only [ok_eBin, ok_eUn, ok_eVar, ok_eD, ok_eIf, ok_tVal, ok_tNot, ok_tAnd, ok_tOr, ok_tTrue, ok_aNil, ok_aCons, ok_eTup, ok_eLst, ok_eCallB, ok_eSl, ok_oNone, ok_oSome, ok_eNot, ok_eAnd, ok_eOr, ok_eAl, ok_eCallU, ok_eMth, ok_sSeq, ok_sNx, ok_sBk, ok_sCt, ok_sDrop, ok_sRet, ok_sRetN, ok_sIf, ok_sSet, ok_sPar, ok_sSto, ok_sFor, ok_iE, ok_iRg, ok_eLc, ok_defF, ok_eDisp, ok_eDNew, pair_nil, pair_cons, Turn_nx, Turn_ct, Turn_bk, Turn_rt, List.take_length, startE, List.map_cons, List.map_nil, Nat.reduceSub, List.replicate_succ, List.replicate_zero, List.append_nil, Ok_ok, Ok_bad, Ok_err, Ok_ne, Ok_stl, List.getElem?_cons_zero, List.getElem?_cons_succ, List.set_cons_zero, List.set_cons_succ, Option.some.injEq, exists_eq_left', exists_eq_left, Ev.stl_d, Ev.stl_new, pv_p, pur_p, purs_nil, purs_p, onP_p, ii_int, Option.map_some, Option.bind_some, D.p.injEq, PyData.int.injEq, PyData.bool.injEq, PyData.str.injEq, PyData.tuple.injEq, PyData.list.injEq, Bool.false_eq_true, if_false, if_true, exists_two, and_true, true_and, and_self, dAdd_int, planD_nil, planD_at, planD_df, List.length_cons, List.length_nil, List.nil_append, List.cons_append, Nat.zero_add, Nat.reduceAdd, exists_some2, exists_pair2, Nat.zero_le, le_line1, le_line2, le_line3, le_line4, le_line5, le_line6, le_line7, le_line8, le_line9, le_line10, le_line11, le_line12, wipeE_nil, wipeE_cons, MObj.toP, fin_d, fin_new, Seq_nx, Seq_bk, Seq_ct, Seq_rt, Br_true, Br_false, decide_true, decide_false, Bool.not_true, Bool.not_false, min_int]
      obtain ⟨q, eq, hq1, hq2⟩ : ∃ q : Nat, (if (1 : Int) + v < (rest.length : Int) then 1 + v else (rest.length : Int)) = (q : Int) ∧ 1 ≤ q ∧ q ≤ rest.length := by
        refine ⟨(if (1 : Int) + v < (rest.length : Int) then 1 + v else (rest.length : Int)).toNat, ?_, ?_, ?_⟩ <;> (split <;> omega)
      rw [eq]
      have er : rg1 [.p (.int (q : Int))] = some (stR 0 q) := rg1_nat (by omega)
      simp only [ok_eBin, ok_eUn, ok_eVar, ok_eD, ok_eIf, ok_tVal, ok_tNot, ok_tAnd, ok_tOr, ok_tTrue, ok_aNil, ok_aCons, ok_eTup, ok_eLst, ok_eCallB, ok_eSl, ok_oNone, ok_oSome, ok_eNot, ok_eAnd, ok_eOr, ok_eAl, ok_eCallU, ok_eMth, ok_sSeq, ok_sNx, ok_sBk, ok_sCt, ok_sDrop, ok_sRet, ok_sRetN, ok_sIf, ok_sSet, ok_sPar, ok_sSto, ok_sFor, ok_iE, ok_iRg, ok_eLc, ok_defF, ok_eDisp, ok_eDNew, pair_nil, pair_cons, Turn_nx, Turn_ct, Turn_bk, Turn_rt, List.take_length, startE, List.map_cons, List.map_nil, Nat.reduceSub, List.replicate_succ, List.replicate_zero, List.append_nil, Ok_ok, Ok_bad, Ok_err, Ok_ne, Ok_stl, List.getElem?_cons_zero, List.getElem?_cons_succ, List.set_cons_zero, List.set_cons_succ, Option.some.injEq, exists_eq_left', exists_eq_left, Ev.stl_d, Ev.stl_new, pv_p, pur_p, purs_nil, purs_p, onP_p, ii_int, Option.map_some, Option.bind_some, D.p.injEq, PyData.int.injEq, PyData.bool.injEq, PyData.str.injEq, PyData.tuple.injEq, PyData.list.injEq, Bool.false_eq_true, if_false, if_true, exists_two, and_true, true_and, and_self, dAdd_int, planD_nil, planD_at, planD_df, List.length_cons, List.length_nil, List.nil_append, List.cons_append, Nat.zero_add, Nat.reduceAdd, exists_some2, exists_pair2, Nat.zero_le, le_line1, le_line2, le_line3, le_line4, le_line5, le_line6, le_line7, le_line8, le_line9, le_line10, le_line11, le_line12, wipeE_nil, wipeE_cons, MObj.toP, fin_d, fin_new, Seq_nx, Seq_bk, Seq_ct, Seq_rt, Br_true, Br_false, decide_true, decide_false, Bool.not_true, Bool.not_false, er]
      refine lc_ok q (fun i acc M' => ∃ rs gs, acc = gs.map PyData.str ∧ M' = M3 ++ .lst (rs.map .str) :: R ∧ rest = rs ++ gs.reverse ∧ gs.length = i) (by rw [sizeLine_eq]; omega) ⟨rest, [], rfl, rfl, by simp, rfl⟩ ?_ ?_
      · intro i acc M' hi hI _
        obtain ⟨rs, gs, e1, e2, e3, e4⟩ := hI
        subst e1
        subst e2
        have hrs : rs ≠ [] := by
          rintro rfl
          have := congrArg List.length e3
          simp at this
          omega
        obtain ⟨rs', y, rfl⟩ : ∃ rs' y, rs = rs' ++ [y] := ⟨rs.dropLast, rs.getLast hrs, (List.dropLast_concat_getLast hrs).symm⟩
        have at1 : (M3 ++ .lst ((rs' ++ [y]).map PyData.str) :: R)[M3.length]? = some (.lst (rs'.map .str ++ [.str y])) := by rw [at_len, List.map_append]; rfl
        refine ⟨_, _, stR_at hi, rfl, ?_⟩
        simp only [ok_eBin, ok_eUn, ok_eVar, ok_eD, ok_eIf, ok_tVal, ok_tNot, ok_tAnd, ok_tOr, ok_tTrue, ok_aNil, ok_aCons, ok_eTup, ok_eLst, ok_eCallB, ok_eSl, ok_oNone, ok_oSome, ok_eNot, ok_eAnd, ok_eOr, ok_eAl, ok_eCallU, ok_eMth, ok_sSeq, ok_sNx, ok_sBk, ok_sCt, ok_sDrop, ok_sRet, ok_sRetN, ok_sIf, ok_sSet, ok_sPar, ok_sSto, ok_sFor, ok_iE, ok_iRg, ok_eLc, ok_defF, ok_eDisp, ok_eDNew, pair_nil, pair_cons, Turn_nx, Turn_ct, Turn_bk, Turn_rt, List.take_length, startE, List.map_cons, List.map_nil, Nat.reduceSub, List.replicate_succ, List.replicate_zero, List.append_nil, Ok_ok, Ok_bad, Ok_err, Ok_ne, Ok_stl, List.getElem?_cons_zero, List.getElem?_cons_succ, List.set_cons_zero, List.set_cons_succ, Option.some.injEq, exists_eq_left', exists_eq_left, Ev.stl_d, Ev.stl_new, pv_p, pur_p, purs_nil, purs_p, onP_p, ii_int, Option.map_some, Option.bind_some, D.p.injEq, PyData.int.injEq, PyData.bool.injEq, PyData.str.injEq, PyData.tuple.injEq, PyData.list.injEq, Bool.false_eq_true, if_false, if_true, exists_two, and_true, true_and, and_self, dAdd_int, planD_nil, planD_at, planD_df, List.length_cons, List.length_nil, List.nil_append, List.cons_append, Nat.zero_add, Nat.reduceAdd, exists_some2, exists_pair2, Nat.zero_le, le_line1, le_line2, le_line3, le_line4, le_line5, le_line6, le_line7, le_line8, le_line9, le_line10, le_line11, le_line12, wipeE_nil, wipeE_cons, MObj.toP, fin_d, fin_new, Seq_nx, Seq_bk, Seq_ct, Seq_rt, Br_true, Br_false, decide_true, decide_false, Bool.not_true, Bool.not_false, kl3, kind_obj at1, gm_pop, mpop0 at1, set_len]
        exact ⟨rs', gs ++ [y], by simp, rfl, by rw [e3]; simp, by simp; omega⟩
      · intro acc M' hI _
        obtain ⟨rs, gs, e1, e2, e3, e4⟩ := hI
        subst e1
        subst e2
        have hrl2 : rest.length = rs.length + gs.length := by rw [e3]; simp
        have gn : gs.Nodup := by
          have := u.rs.1
          rw [e3, List.nodup_append] at this
          exact (List.reverse_perm gs).nodup_iff.mp this.2.1
        refine ⟨stR_end, ?_⟩
        simp only [ok_eBin, ok_eUn, ok_eVar, ok_eD, ok_eIf, ok_tVal, ok_tNot, ok_tAnd, ok_tOr, ok_tTrue, ok_aNil, ok_aCons, ok_eTup, ok_eLst, ok_eCallB, ok_eSl, ok_oNone, ok_oSome, ok_eNot, ok_eAnd, ok_eOr, ok_eAl, ok_eCallU, ok_eMth, ok_sSeq, ok_sNx, ok_sBk, ok_sCt, ok_sDrop, ok_sRet, ok_sRetN, ok_sIf, ok_sSet, ok_sPar, ok_sSto, ok_sFor, ok_iE, ok_iRg, ok_eLc, ok_defF, ok_eDisp, ok_eDNew, pair_nil, pair_cons, Turn_nx, Turn_ct, Turn_bk, Turn_rt, List.take_length, startE, List.map_cons, List.map_nil, Nat.reduceSub, List.replicate_succ, List.replicate_zero, List.append_nil, Ok_ok, Ok_bad, Ok_err, Ok_ne, Ok_stl, List.getElem?_cons_zero, List.getElem?_cons_succ, List.set_cons_zero, List.set_cons_succ, Option.some.injEq, exists_eq_left', exists_eq_left, Ev.stl_d, Ev.stl_new, pv_p, pur_p, purs_nil, purs_p, onP_p, ii_int, Option.map_some, Option.bind_some, D.p.injEq, PyData.int.injEq, PyData.bool.injEq, PyData.str.injEq, PyData.tuple.injEq, PyData.list.injEq, Bool.false_eq_true, if_false, if_true, exists_two, and_true, true_and, and_self, dAdd_int, planD_nil, planD_at, planD_df, List.length_cons, List.length_nil, List.nil_append, List.cons_append, Nat.zero_add, Nat.reduceAdd, exists_some2, exists_pair2, Nat.zero_le, le_line1, le_line2, le_line3, le_line4, le_line5, le_line6, le_line7, le_line8, le_line9, le_line10, le_line11, le_line12, wipeE_nil, wipeE_cons, MObj.toP, fin_d, fin_new, Seq_nx, Seq_bk, Seq_ct, Seq_rt, Br_true, Br_false, decide_true, decide_false, Bool.not_true, Bool.not_false, srt_strs, Cb.len_list, List.length_map, srt_length, e4]
        refine draw_go f3.app (by omega) (by omega) (by omega) fun v2 M5' h0 h1 f5 m5 => ?_
        obtain ⟨M5, rfl, m5, f5⟩ := m5.split f3.lt f5
        have kl5 : M0.length = M5.length := (m3.trans m5).1.symm
        simp only [ok_eBin, ok_eUn, ok_eVar, ok_eD, ok_eIf, ok_tVal, ok_tNot, ok_tAnd, ok_tOr, ok_tTrue, ok_aNil, ok_aCons, ok_eTup, ok_eLst, ok_eCallB, ok_eSl, ok_oNone, ok_oSome, ok_eNot, ok_eAnd, ok_eOr, ok_eAl, ok_eCallU, ok_eMth, ok_sSeq, ok_sNx, ok_sBk, ok_sCt, ok_sDrop, ok_sRet, ok_sRetN, ok_sIf, ok_sSet, ok_sPar, ok_sSto, ok_sFor, ok_iE, ok_iRg, ok_eLc, ok_defF, ok_eDisp, ok_eDNew, pair_nil, pair_cons, Turn_nx, Turn_ct, Turn_bk, Turn_rt, List.take_length, startE, List.map_cons, List.map_nil, Nat.reduceSub, List.replicate_succ, List.replicate_zero, List.append_nil, Ok_ok, Ok_bad, Ok_err, Ok_ne, Ok_stl, List.getElem?_cons_zero, List.getElem?_cons_succ, List.set_cons_zero, List.set_cons_succ, Option.some.injEq, exists_eq_left', exists_eq_left, Ev.stl_d, Ev.stl_new, pv_p, pur_p, purs_nil, purs_p, onP_p, ii_int, Option.map_some, Option.bind_some, D.p.injEq, PyData.int.injEq, PyData.bool.injEq, PyData.str.injEq, PyData.tuple.injEq, PyData.list.injEq, Bool.false_eq_true, if_false, if_true, exists_two, and_true, true_and, and_self, dAdd_int, planD_nil, planD_at, planD_df, List.length_cons, List.length_nil, List.nil_append, List.cons_append, Nat.zero_add, Nat.reduceAdd, exists_some2, exists_pair2, Nat.zero_le, le_line1, le_line2, le_line3, le_line4, le_line5, le_line6, le_line7, le_line8, le_line9, le_line10, le_line11, le_line12, wipeE_nil, wipeE_cons, MObj.toP, fin_d, fin_new, Seq_nx, Seq_bk, Seq_ct, Seq_rt, Br_true, Br_false, decide_true, decide_false, Bool.not_true, Bool.not_false]
        refine all_sets_ok (srt_nodup.mpr gn) (by rw [srt_length]; omega) fun ws w1 w2 w3 => ?_
        rw [srt_length] at w1 w2 w3
        obtain ⟨am, ha⟩ := Int.eq_ofNat_of_zero_le (show 0 ≤ 1 + v2 by omega)
        rw [ha]
        have pw : 2 ^ gs.length ≤ 2 ^ 5 := Nat.pow_le_pow_right (by decide) (by omega)
        simp only [ok_eBin, ok_eUn, ok_eVar, ok_eD, ok_eIf, ok_tVal, ok_tNot, ok_tAnd, ok_tOr, ok_tTrue, ok_aNil, ok_aCons, ok_eTup, ok_eLst, ok_eCallB, ok_eSl, ok_oNone, ok_oSome, ok_eNot, ok_eAnd, ok_eOr, ok_eAl, ok_eCallU, ok_eMth, ok_sSeq, ok_sNx, ok_sBk, ok_sCt, ok_sDrop, ok_sRet, ok_sRetN, ok_sIf, ok_sSet, ok_sPar, ok_sSto, ok_sFor, ok_iE, ok_iRg, ok_eLc, ok_defF, ok_eDisp, ok_eDNew, pair_nil, pair_cons, Turn_nx, Turn_ct, Turn_bk, Turn_rt, List.take_length, startE, List.map_cons, List.map_nil, Nat.reduceSub, List.replicate_succ, List.replicate_zero, List.append_nil, Ok_ok, Ok_bad, Ok_err, Ok_ne, Ok_stl, List.getElem?_cons_zero, List.getElem?_cons_succ, List.set_cons_zero, List.set_cons_succ, Option.some.injEq, exists_eq_left', exists_eq_left, Ev.stl_d, Ev.stl_new, pv_p, pur_p, purs_nil, purs_p, onP_p, ii_int, Option.map_some, Option.bind_some, D.p.injEq, PyData.int.injEq, PyData.bool.injEq, PyData.str.injEq, PyData.tuple.injEq, PyData.list.injEq, Bool.false_eq_true, if_false, if_true, exists_two, and_true, true_and, and_self, dAdd_int, planD_nil, planD_at, planD_df, List.length_cons, List.length_nil, List.nil_append, List.cons_append, Nat.zero_add, Nat.reduceAdd, exists_some2, exists_pair2, Nat.zero_le, le_line1, le_line2, le_line3, le_line4, le_line5, le_line6, le_line7, le_line8, le_line9, le_line10, le_line11, le_line12, wipeE_nil, wipeE_cons, MObj.toP, fin_d, fin_new, Seq_nx, Seq_bk, Seq_ct, Seq_rt, Br_true, Br_false, decide_true, decide_false, Bool.not_true, Bool.not_false, iVal_list]
        refine lc_filter ws tm (fun w => decide (((w.length : Nat) : Int) = (am : Int))) (by rw [sizeLine_eq]; omega) (fun w hw => ?_) (fun w hw => ?_) ?_
        · simp only [ok_eBin, ok_eUn, ok_eVar, ok_eD, ok_eIf, ok_tVal, ok_tNot, ok_tAnd, ok_tOr, ok_tTrue, ok_aNil, ok_aCons, ok_eTup, ok_eLst, ok_eCallB, ok_eSl, ok_oNone, ok_oSome, ok_eNot, ok_eAnd, ok_eOr, ok_eAl, ok_eCallU, ok_eMth, ok_sSeq, ok_sNx, ok_sBk, ok_sCt, ok_sDrop, ok_sRet, ok_sRetN, ok_sIf, ok_sSet, ok_sPar, ok_sSto, ok_sFor, ok_iE, ok_iRg, ok_eLc, ok_defF, ok_eDisp, ok_eDNew, pair_nil, pair_cons, Turn_nx, Turn_ct, Turn_bk, Turn_rt, List.take_length, startE, List.map_cons, List.map_nil, Nat.reduceSub, List.replicate_succ, List.replicate_zero, List.append_nil, Ok_ok, Ok_bad, Ok_err, Ok_ne, Ok_stl, List.getElem?_cons_zero, List.getElem?_cons_succ, List.set_cons_zero, List.set_cons_succ, Option.some.injEq, exists_eq_left', exists_eq_left, Ev.stl_d, Ev.stl_new, pv_p, pur_p, purs_nil, purs_p, onP_p, ii_int, Option.map_some, Option.bind_some, D.p.injEq, PyData.int.injEq, PyData.bool.injEq, PyData.str.injEq, PyData.tuple.injEq, PyData.list.injEq, Bool.false_eq_true, if_false, if_true, exists_two, and_true, true_and, and_self, dAdd_int, planD_nil, planD_at, planD_df, List.length_cons, List.length_nil, List.nil_append, List.cons_append, Nat.zero_add, Nat.reduceAdd, exists_some2, exists_pair2, Nat.zero_le, le_line1, le_line2, le_line3, le_line4, le_line5, le_line6, le_line7, le_line8, le_line9, le_line10, le_line11, le_line12, wipeE_nil, wipeE_cons, MObj.toP, fin_d, fin_new, Seq_nx, Seq_bk, Seq_ct, Seq_rt, Br_true, Br_false, decide_true, decide_false, Bool.not_true, Bool.not_false, len_tm, gEq_int]
        · simp only [ok_eBin, ok_eUn, ok_eVar, ok_eD, ok_eIf, ok_tVal, ok_tNot, ok_tAnd, ok_tOr, ok_tTrue, ok_aNil, ok_aCons, ok_eTup, ok_eLst, ok_eCallB, ok_eSl, ok_oNone, ok_oSome, ok_eNot, ok_eAnd, ok_eOr, ok_eAl, ok_eCallU, ok_eMth, ok_sSeq, ok_sNx, ok_sBk, ok_sCt, ok_sDrop, ok_sRet, ok_sRetN, ok_sIf, ok_sSet, ok_sPar, ok_sSto, ok_sFor, ok_iE, ok_iRg, ok_eLc, ok_defF, ok_eDisp, ok_eDNew, pair_nil, pair_cons, Turn_nx, Turn_ct, Turn_bk, Turn_rt, List.take_length, startE, List.map_cons, List.map_nil, Nat.reduceSub, List.replicate_succ, List.replicate_zero, List.append_nil, Ok_ok, Ok_bad, Ok_err, Ok_ne, Ok_stl, List.getElem?_cons_zero, List.getElem?_cons_succ, List.set_cons_zero, List.set_cons_succ, Option.some.injEq, exists_eq_left', exists_eq_left, Ev.stl_d, Ev.stl_new, pv_p, pur_p, purs_nil, purs_p, onP_p, ii_int, Option.map_some, Option.bind_some, D.p.injEq, PyData.int.injEq, PyData.bool.injEq, PyData.str.injEq, PyData.tuple.injEq, PyData.list.injEq, Bool.false_eq_true, if_false, if_true, exists_two, and_true, true_and, and_self, dAdd_int, planD_nil, planD_at, planD_df, List.length_cons, List.length_nil, List.nil_append, List.cons_append, Nat.zero_add, Nat.reduceAdd, exists_some2, exists_pair2, Nat.zero_le, le_line1, le_line2, le_line3, le_line4, le_line5, le_line6, le_line7, le_line8, le_line9, le_line10, le_line11, le_line12, wipeE_nil, wipeE_cons, MObj.toP, fin_d, fin_new, Seq_nx, Seq_bk, Seq_ct, Seq_rt, Br_true, Br_false, decide_true, decide_false, Bool.not_true, Bool.not_false]
        generalize hws : (ws.filter fun w => decide (((w.length : Nat) : Int) = (am : Int))) = ps
        have hps : ∀ w ∈ ps, w.Nodup ∧ w.length ≤ gs.length ∧ w.length = am ∧ ∀ x ∈ w, x ∈ gs := fun w hw => by
          rw [← hws, List.mem_filter] at hw
          obtain ⟨p1, p2, p3⟩ := w2 w hw.1
          have := hw.2
          simp at this
          exact ⟨p1, p2, by omega, fun x hx => mem_srt.mp (p3 x hx)⟩
        have hpl : ps.length ≤ 2 ^ gs.length := by rw [← w1, ← hws]; exact List.length_filter_le _ _
        have hpn : ps ≠ [] := by
          obtain ⟨w, hw, hwl⟩ := w3 am (by omega)
          rw [← hws]
          exact List.ne_nil_of_mem (List.mem_filter.mpr ⟨hw, by simp [hwl]⟩)
        have un := u.next hm e3 (by omega) (a := am) (by omega) hpl hpn hps
        have bound : xss.length * ps.length ≤ 32 := by
          have := un.sz
          rw [flat_len xss _ ps.length (fun xs _ => by rw [List.length_map])] at this
          have pm : 2 ^ most ≤ 2 ^ 5 := Nat.pow_le_pow_right (by decide) hm
          have p0 : 1 ≤ 2 ^ rs.length := Nat.one_le_two_pow
          exact Nat.le_trans (Nat.le_trans (by simpa using Nat.mul_le_mul_left (xss.length * ps.length) p0) this) pm
        have xl : xss.length ≤ 32 := Nat.le_trans (by simpa using Nat.mul_le_mul_left xss.length (List.length_pos_iff.mpr hpn)) bound
        obtain ⟨st, es1, es2⟩ := (kl5 ▸ hd : Lsy d M5.length R (xss.map tm)).it (o := .lst (rs.map .str)) [.lst []]
        generalize hK : M5 ++ MObj.lst (List.map PyData.str rs) :: R = K at es1 es2 ⊢
        simp only [ok_eBin, ok_eUn, ok_eVar, ok_eD, ok_eIf, ok_tVal, ok_tNot, ok_tAnd, ok_tOr, ok_tTrue, ok_aNil, ok_aCons, ok_eTup, ok_eLst, ok_eCallB, ok_eSl, ok_oNone, ok_oSome, ok_eNot, ok_eAnd, ok_eOr, ok_eAl, ok_eCallU, ok_eMth, ok_sSeq, ok_sNx, ok_sBk, ok_sCt, ok_sDrop, ok_sRet, ok_sRetN, ok_sIf, ok_sSet, ok_sPar, ok_sSto, ok_sFor, ok_iE, ok_iRg, ok_eLc, ok_defF, ok_eDisp, ok_eDNew, pair_nil, pair_cons, Turn_nx, Turn_ct, Turn_bk, Turn_rt, List.take_length, startE, List.map_cons, List.map_nil, Nat.reduceSub, List.replicate_succ, List.replicate_zero, List.append_nil, Ok_ok, Ok_bad, Ok_err, Ok_ne, Ok_stl, List.getElem?_cons_zero, List.getElem?_cons_succ, List.set_cons_zero, List.set_cons_succ, Option.some.injEq, exists_eq_left', exists_eq_left, Ev.stl_d, Ev.stl_new, pv_p, pur_p, purs_nil, purs_p, onP_p, ii_int, Option.map_some, Option.bind_some, D.p.injEq, PyData.int.injEq, PyData.bool.injEq, PyData.str.injEq, PyData.tuple.injEq, PyData.list.injEq, Bool.false_eq_true, if_false, if_true, exists_two, and_true, true_and, and_self, dAdd_int, planD_nil, planD_at, planD_df, List.length_cons, List.length_nil, List.nil_append, List.cons_append, Nat.zero_add, Nat.reduceAdd, exists_some2, exists_pair2, Nat.zero_le, le_line1, le_line2, le_line3, le_line4, le_line5, le_line6, le_line7, le_line8, le_line9, le_line10, le_line11, le_line12, wipeE_nil, wipeE_cons, MObj.toP, fin_d, fin_new, Seq_nx, Seq_bk, Seq_ct, Seq_rt, Br_true, Br_false, decide_true, decide_false, Bool.not_true, Bool.not_false, es1]
        refine for_ok xss.length (fun i ρ M' => M' = K ++ [.lst (((xss.take i).flatMap fun xs => ps.map fun w => srt (xs ++ w)).map tm)] ∧ ∃ a8 a10 : Option D, ρ = [some (.obj n), some (.p (.int (most : Int))), some (.obj M0.length), some d, some (.p (.list ((srt gs).map .str))), a5, some (.p (.int (am : Int))), some (.p (.list (ps.map tm))), a8, some (.obj K.length), a10]) (by rw [sizeLine_eq]; omega) ⟨by simp, _, _, rfl⟩ ?_ ?_
        · intro i ρ M' hi hI
          obtain ⟨e5, a8, a10, e6⟩ := hI
          subst e5
          subst e6
          have hst : st i (K ++ [.lst (((xss.take i).flatMap fun xs => ps.map fun w => srt (xs ++ w)).map tm)]) = some (some (tm xss[i])) := by
            rw [← hK, es2 _ _ _ _ rfl, List.getElem?_map, List.getElem?_eq_getElem hi]
            rfl
          refine ⟨_, _, hst, rfl, ?_⟩
          have t2 := (u.team xss[i] (List.getElem_mem hi)).2.1
          have fk := flat_take xss (fun xs => ps.map fun w => srt (xs ++ w)) hi
          simp only [ok_eBin, ok_eUn, ok_eVar, ok_eD, ok_eIf, ok_tVal, ok_tNot, ok_tAnd, ok_tOr, ok_tTrue, ok_aNil, ok_aCons, ok_eTup, ok_eLst, ok_eCallB, ok_eSl, ok_oNone, ok_oSome, ok_eNot, ok_eAnd, ok_eOr, ok_eAl, ok_eCallU, ok_eMth, ok_sSeq, ok_sNx, ok_sBk, ok_sCt, ok_sDrop, ok_sRet, ok_sRetN, ok_sIf, ok_sSet, ok_sPar, ok_sSto, ok_sFor, ok_iE, ok_iRg, ok_eLc, ok_defF, ok_eDisp, ok_eDNew, pair_nil, pair_cons, Turn_nx, Turn_ct, Turn_bk, Turn_rt, List.take_length, startE, List.map_cons, List.map_nil, Nat.reduceSub, List.replicate_succ, List.replicate_zero, List.append_nil, Ok_ok, Ok_bad, Ok_err, Ok_ne, Ok_stl, List.getElem?_cons_zero, List.getElem?_cons_succ, List.set_cons_zero, List.set_cons_succ, Option.some.injEq, exists_eq_left', exists_eq_left, Ev.stl_d, Ev.stl_new, pv_p, pur_p, purs_nil, purs_p, onP_p, ii_int, Option.map_some, Option.bind_some, D.p.injEq, PyData.int.injEq, PyData.bool.injEq, PyData.str.injEq, PyData.tuple.injEq, PyData.list.injEq, Bool.false_eq_true, if_false, if_true, exists_two, and_true, true_and, and_self, dAdd_int, planD_nil, planD_at, planD_df, List.length_cons, List.length_nil, List.nil_append, List.cons_append, Nat.zero_add, Nat.reduceAdd, exists_some2, exists_pair2, Nat.zero_le, le_line1, le_line2, le_line3, le_line4, le_line5, le_line6, le_line7, le_line8, le_line9, le_line10, le_line11, le_line12, wipeE_nil, wipeE_cons, MObj.toP, fin_d, fin_new, Seq_nx, Seq_bk, Seq_ct, Seq_rt, Br_true, Br_false, decide_true, decide_false, Bool.not_true, Bool.not_false, kind_obj (at_len K _ []), gm_extend, iVal_list]
          refine lc_map ps tm (fun w => srt (xss[i] ++ w)) tm (by rw [sizeLine_eq]; omega) (fun w hw => ?_) ?_
          · have q1 := (hps w hw).2.1
            simp only [ok_eBin, ok_eUn, ok_eVar, ok_eD, ok_eIf, ok_tVal, ok_tNot, ok_tAnd, ok_tOr, ok_tTrue, ok_aNil, ok_aCons, ok_eTup, ok_eLst, ok_eCallB, ok_eSl, ok_oNone, ok_oSome, ok_eNot, ok_eAnd, ok_eOr, ok_eAl, ok_eCallU, ok_eMth, ok_sSeq, ok_sNx, ok_sBk, ok_sCt, ok_sDrop, ok_sRet, ok_sRetN, ok_sIf, ok_sSet, ok_sPar, ok_sSto, ok_sFor, ok_iE, ok_iRg, ok_eLc, ok_defF, ok_eDisp, ok_eDNew, pair_nil, pair_cons, Turn_nx, Turn_ct, Turn_bk, Turn_rt, List.take_length, startE, List.map_cons, List.map_nil, Nat.reduceSub, List.replicate_succ, List.replicate_zero, List.append_nil, Ok_ok, Ok_bad, Ok_err, Ok_ne, Ok_stl, List.getElem?_cons_zero, List.getElem?_cons_succ, List.set_cons_zero, List.set_cons_succ, Option.some.injEq, exists_eq_left', exists_eq_left, Ev.stl_d, Ev.stl_new, pv_p, pur_p, purs_nil, purs_p, onP_p, ii_int, Option.map_some, Option.bind_some, D.p.injEq, PyData.int.injEq, PyData.bool.injEq, PyData.str.injEq, PyData.tuple.injEq, PyData.list.injEq, Bool.false_eq_true, if_false, if_true, exists_two, and_true, true_and, and_self, dAdd_int, planD_nil, planD_at, planD_df, List.length_cons, List.length_nil, List.nil_append, List.cons_append, Nat.zero_add, Nat.reduceAdd, exists_some2, exists_pair2, Nat.zero_le, le_line1, le_line2, le_line3, le_line4, le_line5, le_line6, le_line7, le_line8, le_line9, le_line10, le_line11, le_line12, wipeE_nil, wipeE_cons, MObj.toP, fin_d, fin_new, Seq_nx, Seq_bk, Seq_ct, Seq_rt, Br_true, Br_false, decide_true, decide_false, Bool.not_true, Bool.not_false, tm_addT (show xss[i].length + w.length ≤ 10 by omega), bSrt_tm, tup_strs]
          · have hz : (((xss.take i).flatMap fun xs => ps.map fun w => srt (xs ++ w)).map tm).length + ((ps.map fun w => srt (xss[i] ++ w)).map tm).length ≤ sizeLine := by
              rw [List.length_map, List.length_map, List.length_map, flat_len _ _ ps.length (fun xs _ => by rw [List.length_map]), List.length_take, sizeLine_eq]
              have : min i xss.length * ps.length ≤ xss.length * ps.length := Nat.mul_le_mul_right _ (Nat.min_le_right ..)
              omega
            simp only [ok_eBin, ok_eUn, ok_eVar, ok_eD, ok_eIf, ok_tVal, ok_tNot, ok_tAnd, ok_tOr, ok_tTrue, ok_aNil, ok_aCons, ok_eTup, ok_eLst, ok_eCallB, ok_eSl, ok_oNone, ok_oSome, ok_eNot, ok_eAnd, ok_eOr, ok_eAl, ok_eCallU, ok_eMth, ok_sSeq, ok_sNx, ok_sBk, ok_sCt, ok_sDrop, ok_sRet, ok_sRetN, ok_sIf, ok_sSet, ok_sPar, ok_sSto, ok_sFor, ok_iE, ok_iRg, ok_eLc, ok_defF, ok_eDisp, ok_eDNew, pair_nil, pair_cons, Turn_nx, Turn_ct, Turn_bk, Turn_rt, List.take_length, startE, List.map_cons, List.map_nil, Nat.reduceSub, List.replicate_succ, List.replicate_zero, List.append_nil, Ok_ok, Ok_bad, Ok_err, Ok_ne, Ok_stl, List.getElem?_cons_zero, List.getElem?_cons_succ, List.set_cons_zero, List.set_cons_succ, Option.some.injEq, exists_eq_left', exists_eq_left, Ev.stl_d, Ev.stl_new, pv_p, pur_p, purs_nil, purs_p, onP_p, ii_int, Option.map_some, Option.bind_some, D.p.injEq, PyData.int.injEq, PyData.bool.injEq, PyData.str.injEq, PyData.tuple.injEq, PyData.list.injEq, Bool.false_eq_true, if_false, if_true, exists_two, and_true, true_and, and_self, dAdd_int, planD_nil, planD_at, planD_df, List.length_cons, List.length_nil, List.nil_append, List.cons_append, Nat.zero_add, Nat.reduceAdd, exists_some2, exists_pair2, Nat.zero_le, le_line1, le_line2, le_line3, le_line4, le_line5, le_line6, le_line7, le_line8, le_line9, le_line10, le_line11, le_line12, wipeE_nil, wipeE_cons, MObj.toP, fin_d, fin_new, Seq_nx, Seq_bk, Seq_ct, Seq_rt, Br_true, Br_false, decide_true, decide_false, Bool.not_true, Bool.not_false, mext (at_len K _ []) hz, set_len]
            refine ⟨?_, _, _, rfl⟩
            rw [fk, List.map_append]
        · intro ρ M' hI
          obtain ⟨e5, a8, a10, e6⟩ := hI
          subst e5
          subst e6
          have hst : st xss.length (K ++ [.lst (((xss.take xss.length).flatMap fun xs => ps.map fun w => srt (xs ++ w)).map tm)]) = some none := by
            rw [← hK, es2 _ _ _ _ rfl, List.getElem?_eq_none (by simp)]
          refine ⟨hst, ?_⟩
          simp only [ok_eBin, ok_eUn, ok_eVar, ok_eD, ok_eIf, ok_tVal, ok_tNot, ok_tAnd, ok_tOr, ok_tTrue, ok_aNil, ok_aCons, ok_eTup, ok_eLst, ok_eCallB, ok_eSl, ok_oNone, ok_oSome, ok_eNot, ok_eAnd, ok_eOr, ok_eAl, ok_eCallU, ok_eMth, ok_sSeq, ok_sNx, ok_sBk, ok_sCt, ok_sDrop, ok_sRet, ok_sRetN, ok_sIf, ok_sSet, ok_sPar, ok_sSto, ok_sFor, ok_iE, ok_iRg, ok_eLc, ok_defF, ok_eDisp, ok_eDNew, pair_nil, pair_cons, Turn_nx, Turn_ct, Turn_bk, Turn_rt, List.take_length, startE, List.map_cons, List.map_nil, Nat.reduceSub, List.replicate_succ, List.replicate_zero, List.append_nil, Ok_ok, Ok_bad, Ok_err, Ok_ne, Ok_stl, List.getElem?_cons_zero, List.getElem?_cons_succ, List.set_cons_zero, List.set_cons_succ, Option.some.injEq, exists_eq_left', exists_eq_left, Ev.stl_d, Ev.stl_new, pv_p, pur_p, purs_nil, purs_p, onP_p, ii_int, Option.map_some, Option.bind_some, D.p.injEq, PyData.int.injEq, PyData.bool.injEq, PyData.str.injEq, PyData.tuple.injEq, PyData.list.injEq, Bool.false_eq_true, if_false, if_true, exists_two, and_true, true_and, and_self, dAdd_int, planD_nil, planD_at, planD_df, List.length_cons, List.length_nil, List.nil_append, List.cons_append, Nat.zero_add, Nat.reduceAdd, exists_some2, exists_pair2, Nat.zero_le, le_line1, le_line2, le_line3, le_line4, le_line5, le_line6, le_line7, le_line8, le_line9, le_line10, le_line11, le_line12, wipeE_nil, wipeE_cons, MObj.toP, fin_d, fin_new, Seq_nx, Seq_bk, Seq_ct, Seq_rt, Br_true, Br_false, decide_true, decide_false, Bool.not_true, Bool.not_false]
          refine ⟨rs.length, by omega, rs, M5, R ++ [.lst ((xss.flatMap fun xs => ps.map fun w => srt (xs ++ w)).map tm)], _, _, _, _, _, _, _, _, _, by rw [kl5], by rw [← hK]; simp, rfl, .inr ⟨R.length, by rw [← hK]; simp; omega, by simp⟩, un, f5.mono (by omega), (m2.trans m3).trans m5⟩
end LK49

set_option Elab.async false
set_option linter.all false
set_option maxRecDepth 100000
namespace LK49
open PySem PySem.Spec PyProof.Rows L2 Cb
open PySem.W (Datum DatumOrd Tup)

theorem make_any_ok {M : Mem} {n b : Nat} {Q : Ev → Mem → Prop} (f : Fd M n b) (hb : b < 800000)
    (h : ∀ (xss : List (List Str)) (M' : Mem), GT xss → xss ≠ [] → Fd M' n (b + 200) → Q (.d (.p (tms xss))) M') : Ok (fs__law_make_any [.obj n, .p (.int 5)] M) Q := by
  unfold fs__law_make_any φ__law_make_any
  simp only [ok_eBin, ok_eUn, ok_eVar, ok_eD, ok_eIf, ok_tVal, ok_tNot, ok_tAnd, ok_tOr, ok_tTrue, ok_aNil, ok_aCons, ok_eTup, ok_eLst, ok_eCallB, ok_eSl, ok_oNone, ok_oSome, ok_eNot, ok_eAnd, ok_eOr, ok_eAl, ok_eCallU, ok_eMth, ok_sSeq, ok_sNx, ok_sBk, ok_sCt, ok_sDrop, ok_sRet, ok_sRetN, ok_sIf, ok_sSet, ok_sPar, ok_sSto, ok_sFor, ok_iE, ok_iRg, ok_eLc, ok_defF, ok_eDisp, ok_eDNew, pair_nil, pair_cons, Turn_nx, Turn_ct, Turn_bk, Turn_rt, List.take_length, startE, List.map_cons, List.map_nil, Nat.reduceSub, List.replicate_succ, List.replicate_zero, List.append_nil, Ok_ok, Ok_bad, Ok_err, Ok_ne, Ok_stl, List.getElem?_cons_zero, List.getElem?_cons_succ, List.set_cons_zero, List.set_cons_succ, Option.some.injEq, exists_eq_left', exists_eq_left, Ev.stl_d, Ev.stl_new, pv_p, pur_p, purs_nil, purs_p, onP_p, ii_int, Option.map_some, Option.bind_some, D.p.injEq, PyData.int.injEq, PyData.bool.injEq, PyData.str.injEq, PyData.tuple.injEq, PyData.list.injEq, Bool.false_eq_true, if_false, if_true, exists_two, and_true, true_and, and_self, dAdd_int, planD_nil, planD_at, planD_df, List.length_cons, List.length_nil, List.nil_append, List.cons_append, Nat.zero_add, Nat.reduceAdd, exists_some2, exists_pair2, Nat.zero_le, le_line1, le_line2, le_line3, le_line4, le_line5, le_line6, le_line7, le_line8, le_line9, le_line10, le_line11, le_line12, wipeE_nil, wipeE_cons, MObj.toP, fin_d, fin_new, Seq_nx, Seq_bk, Seq_ct, Seq_rt, Br_true, Br_false, decide_true, decide_false, Bool.not_true, Bool.not_false]
  refine draw_go f (by omega) (by decide) (by decide) fun v M1 h0 h1 f1 m1 => ?_
  have kl1 : M.length = M1.length := m1.1.symm
  simp only [ok_eBin, ok_eUn, ok_eVar, ok_eD, ok_eIf, ok_tVal, ok_tNot, ok_tAnd, ok_tOr, ok_tTrue, ok_aNil, ok_aCons, ok_eTup, ok_eLst, ok_eCallB, ok_eSl, ok_oNone, ok_oSome, ok_eNot, ok_eAnd, ok_eOr, ok_eAl, ok_eCallU, ok_eMth, ok_sSeq, ok_sNx, ok_sBk, ok_sCt, ok_sDrop, ok_sRet, ok_sRetN, ok_sIf, ok_sSet, ok_sPar, ok_sSto, ok_sFor, ok_iE, ok_iRg, ok_eLc, ok_defF, ok_eDisp, ok_eDNew, pair_nil, pair_cons, Turn_nx, Turn_ct, Turn_bk, Turn_rt, List.take_length, startE, List.map_cons, List.map_nil, Nat.reduceSub, List.replicate_succ, List.replicate_zero, List.append_nil, Ok_ok, Ok_bad, Ok_err, Ok_ne, Ok_stl, List.getElem?_cons_zero, List.getElem?_cons_succ, List.set_cons_zero, List.set_cons_succ, Option.some.injEq, exists_eq_left', exists_eq_left, Ev.stl_d, Ev.stl_new, pv_p, pur_p, purs_nil, purs_p, onP_p, ii_int, Option.map_some, Option.bind_some, D.p.injEq, PyData.int.injEq, PyData.bool.injEq, PyData.str.injEq, PyData.tuple.injEq, PyData.list.injEq, Bool.false_eq_true, if_false, if_true, exists_two, and_true, true_and, and_self, dAdd_int, planD_nil, planD_at, planD_df, List.length_cons, List.length_nil, List.nil_append, List.cons_append, Nat.zero_add, Nat.reduceAdd, exists_some2, exists_pair2, Nat.zero_le, le_line1, le_line2, le_line3, le_line4, le_line5, le_line6, le_line7, le_line8, le_line9, le_line10, le_line11, le_line12, wipeE_nil, wipeE_cons, MObj.toP, fin_d, fin_new, Seq_nx, Seq_bk, Seq_ct, Seq_rt, Br_true, Br_false, decide_true, decide_false, Bool.not_true, Bool.not_false, gEq_int]
  refine Br.by (fun e => ?_) fun e => ?_
  · simp only [ok_eBin, ok_eUn, ok_eVar, ok_eD, ok_eIf, ok_tVal, ok_tNot, ok_tAnd, ok_tOr, ok_tTrue, ok_aNil, ok_aCons, ok_eTup, ok_eLst, ok_eCallB, ok_eSl, ok_oNone, ok_oSome, ok_eNot, ok_eAnd, ok_eOr, ok_eAl, ok_eCallU, ok_eMth, ok_sSeq, ok_sNx, ok_sBk, ok_sCt, ok_sDrop, ok_sRet, ok_sRetN, ok_sIf, ok_sSet, ok_sPar, ok_sSto, ok_sFor, ok_iE, ok_iRg, ok_eLc, ok_defF, ok_eDisp, ok_eDNew, pair_nil, pair_cons, Turn_nx, Turn_ct, Turn_bk, Turn_rt, List.take_length, startE, List.map_cons, List.map_nil, Nat.reduceSub, List.replicate_succ, List.replicate_zero, List.append_nil, Ok_ok, Ok_bad, Ok_err, Ok_ne, Ok_stl, List.getElem?_cons_zero, List.getElem?_cons_succ, List.set_cons_zero, List.set_cons_succ, Option.some.injEq, exists_eq_left', exists_eq_left, Ev.stl_d, Ev.stl_new, pv_p, pur_p, purs_nil, purs_p, onP_p, ii_int, Option.map_some, Option.bind_some, D.p.injEq, PyData.int.injEq, PyData.bool.injEq, PyData.str.injEq, PyData.tuple.injEq, PyData.list.injEq, Bool.false_eq_true, if_false, if_true, exists_two, and_true, true_and, and_self, dAdd_int, planD_nil, planD_at, planD_df, List.length_cons, List.length_nil, List.nil_append, List.cons_append, Nat.zero_add, Nat.reduceAdd, exists_some2, exists_pair2, Nat.zero_le, le_line1, le_line2, le_line3, le_line4, le_line5, le_line6, le_line7, le_line8, le_line9, le_line10, le_line11, le_line12, wipeE_nil, wipeE_cons, MObj.toP, fin_d, fin_new, Seq_nx, Seq_bk, Seq_ct, Seq_rt, Br_true, Br_false, decide_true, decide_false, Bool.not_true, Bool.not_false, iSub_eq]
    refine draw_go f1 (by omega) (by decide) (by decide) fun v2 M2 h0 h1 f2 m2 => ?_
    obtain ⟨k, rfl⟩ := Int.eq_ofNat_of_zero_le h0
    have e2 : (2 : Int) + (k : Int) = ((2 + k : Nat) : Int) := by omega
    have kl2 : M.length = M2.length := (m1.trans m2).1.symm
    simp only [ok_eBin, ok_eUn, ok_eVar, ok_eD, ok_eIf, ok_tVal, ok_tNot, ok_tAnd, ok_tOr, ok_tTrue, ok_aNil, ok_aCons, ok_eTup, ok_eLst, ok_eCallB, ok_eSl, ok_oNone, ok_oSome, ok_eNot, ok_eAnd, ok_eOr, ok_eAl, ok_eCallU, ok_eMth, ok_sSeq, ok_sNx, ok_sBk, ok_sCt, ok_sDrop, ok_sRet, ok_sRetN, ok_sIf, ok_sSet, ok_sPar, ok_sSto, ok_sFor, ok_iE, ok_iRg, ok_eLc, ok_defF, ok_eDisp, ok_eDNew, pair_nil, pair_cons, Turn_nx, Turn_ct, Turn_bk, Turn_rt, List.take_length, startE, List.map_cons, List.map_nil, Nat.reduceSub, List.replicate_succ, List.replicate_zero, List.append_nil, Ok_ok, Ok_bad, Ok_err, Ok_ne, Ok_stl, List.getElem?_cons_zero, List.getElem?_cons_succ, List.set_cons_zero, List.set_cons_succ, Option.some.injEq, exists_eq_left', exists_eq_left, Ev.stl_d, Ev.stl_new, pv_p, pur_p, purs_nil, purs_p, onP_p, ii_int, Option.map_some, Option.bind_some, D.p.injEq, PyData.int.injEq, PyData.bool.injEq, PyData.str.injEq, PyData.tuple.injEq, PyData.list.injEq, Bool.false_eq_true, if_false, if_true, exists_two, and_true, true_and, and_self, dAdd_int, planD_nil, planD_at, planD_df, List.length_cons, List.length_nil, List.nil_append, List.cons_append, Nat.zero_add, Nat.reduceAdd, exists_some2, exists_pair2, Nat.zero_le, le_line1, le_line2, le_line3, le_line4, le_line5, le_line6, le_line7, le_line8, le_line9, le_line10, le_line11, le_line12, wipeE_nil, wipeE_cons, MObj.toP, fin_d, fin_new, Seq_nx, Seq_bk, Seq_ct, Seq_rt, Br_true, Br_false, decide_true, decide_false, Bool.not_true, Bool.not_false, e2]
    refine make_good_ok f2 (by omega) (by omega) (by omega) fun xss M3 g ne f3 m3 => ?_
    have kl3 : M.length = M3.length := ((m1.trans m2).trans m3).1.symm
    have tl : M3.take M.length = M3 := List.take_of_length_le (by omega)
    simp only [ok_eBin, ok_eUn, ok_eVar, ok_eD, ok_eIf, ok_tVal, ok_tNot, ok_tAnd, ok_tOr, ok_tTrue, ok_aNil, ok_aCons, ok_eTup, ok_eLst, ok_eCallB, ok_eSl, ok_oNone, ok_oSome, ok_eNot, ok_eAnd, ok_eOr, ok_eAl, ok_eCallU, ok_eMth, ok_sSeq, ok_sNx, ok_sBk, ok_sCt, ok_sDrop, ok_sRet, ok_sRetN, ok_sIf, ok_sSet, ok_sPar, ok_sSto, ok_sFor, ok_iE, ok_iRg, ok_eLc, ok_defF, ok_eDisp, ok_eDNew, pair_nil, pair_cons, Turn_nx, Turn_ct, Turn_bk, Turn_rt, List.take_length, startE, List.map_cons, List.map_nil, Nat.reduceSub, List.replicate_succ, List.replicate_zero, List.append_nil, Ok_ok, Ok_bad, Ok_err, Ok_ne, Ok_stl, List.getElem?_cons_zero, List.getElem?_cons_succ, List.set_cons_zero, List.set_cons_succ, Option.some.injEq, exists_eq_left', exists_eq_left, Ev.stl_d, Ev.stl_new, pv_p, pur_p, purs_nil, purs_p, onP_p, ii_int, Option.map_some, Option.bind_some, D.p.injEq, PyData.int.injEq, PyData.bool.injEq, PyData.str.injEq, PyData.tuple.injEq, PyData.list.injEq, Bool.false_eq_true, if_false, if_true, exists_two, and_true, true_and, and_self, dAdd_int, planD_nil, planD_at, planD_df, List.length_cons, List.length_nil, List.nil_append, List.cons_append, Nat.zero_add, Nat.reduceAdd, exists_some2, exists_pair2, Nat.zero_le, le_line1, le_line2, le_line3, le_line4, le_line5, le_line6, le_line7, le_line8, le_line9, le_line10, le_line11, le_line12, wipeE_nil, wipeE_cons, MObj.toP, fin_d, fin_new, Seq_nx, Seq_bk, Seq_ct, Seq_rt, Br_true, Br_false, decide_true, decide_false, Bool.not_true, Bool.not_false, tl]
    exact h xss M3 g ne (f3.mono (by omega))
  · simp only [ok_eBin, ok_eUn, ok_eVar, ok_eD, ok_eIf, ok_tVal, ok_tNot, ok_tAnd, ok_tOr, ok_tTrue, ok_aNil, ok_aCons, ok_eTup, ok_eLst, ok_eCallB, ok_eSl, ok_oNone, ok_oSome, ok_eNot, ok_eAnd, ok_eOr, ok_eAl, ok_eCallU, ok_eMth, ok_sSeq, ok_sNx, ok_sBk, ok_sCt, ok_sDrop, ok_sRet, ok_sRetN, ok_sIf, ok_sSet, ok_sPar, ok_sSto, ok_sFor, ok_iE, ok_iRg, ok_eLc, ok_defF, ok_eDisp, ok_eDNew, pair_nil, pair_cons, Turn_nx, Turn_ct, Turn_bk, Turn_rt, List.take_length, startE, List.map_cons, List.map_nil, Nat.reduceSub, List.replicate_succ, List.replicate_zero, List.append_nil, Ok_ok, Ok_bad, Ok_err, Ok_ne, Ok_stl, List.getElem?_cons_zero, List.getElem?_cons_succ, List.set_cons_zero, List.set_cons_succ, Option.some.injEq, exists_eq_left', exists_eq_left, Ev.stl_d, Ev.stl_new, pv_p, pur_p, purs_nil, purs_p, onP_p, ii_int, Option.map_some, Option.bind_some, D.p.injEq, PyData.int.injEq, PyData.bool.injEq, PyData.str.injEq, PyData.tuple.injEq, PyData.list.injEq, Bool.false_eq_true, if_false, if_true, exists_two, and_true, true_and, and_self, dAdd_int, planD_nil, planD_at, planD_df, List.length_cons, List.length_nil, List.nil_append, List.cons_append, Nat.zero_add, Nat.reduceAdd, exists_some2, exists_pair2, Nat.zero_le, le_line1, le_line2, le_line3, le_line4, le_line5, le_line6, le_line7, le_line8, le_line9, le_line10, le_line11, le_line12, wipeE_nil, wipeE_cons, MObj.toP, fin_d, fin_new, Seq_nx, Seq_bk, Seq_ct, Seq_rt, Br_true, Br_false, decide_true, decide_false, Bool.not_true, Bool.not_false]
    refine make_teams_ok f1 (by omega) fun xss M3 g ne f3 m3 => ?_
    have kl3 : M.length = M3.length := (m1.trans m3).1.symm
    have tl : M3.take M.length = M3 := List.take_of_length_le (by omega)
    simp only [ok_eBin, ok_eUn, ok_eVar, ok_eD, ok_eIf, ok_tVal, ok_tNot, ok_tAnd, ok_tOr, ok_tTrue, ok_aNil, ok_aCons, ok_eTup, ok_eLst, ok_eCallB, ok_eSl, ok_oNone, ok_oSome, ok_eNot, ok_eAnd, ok_eOr, ok_eAl, ok_eCallU, ok_eMth, ok_sSeq, ok_sNx, ok_sBk, ok_sCt, ok_sDrop, ok_sRet, ok_sRetN, ok_sIf, ok_sSet, ok_sPar, ok_sSto, ok_sFor, ok_iE, ok_iRg, ok_eLc, ok_defF, ok_eDisp, ok_eDNew, pair_nil, pair_cons, Turn_nx, Turn_ct, Turn_bk, Turn_rt, List.take_length, startE, List.map_cons, List.map_nil, Nat.reduceSub, List.replicate_succ, List.replicate_zero, List.append_nil, Ok_ok, Ok_bad, Ok_err, Ok_ne, Ok_stl, List.getElem?_cons_zero, List.getElem?_cons_succ, List.set_cons_zero, List.set_cons_succ, Option.some.injEq, exists_eq_left', exists_eq_left, Ev.stl_d, Ev.stl_new, pv_p, pur_p, purs_nil, purs_p, onP_p, ii_int, Option.map_some, Option.bind_some, D.p.injEq, PyData.int.injEq, PyData.bool.injEq, PyData.str.injEq, PyData.tuple.injEq, PyData.list.injEq, Bool.false_eq_true, if_false, if_true, exists_two, and_true, true_and, and_self, dAdd_int, planD_nil, planD_at, planD_df, List.length_cons, List.length_nil, List.nil_append, List.cons_append, Nat.zero_add, Nat.reduceAdd, exists_some2, exists_pair2, Nat.zero_le, le_line1, le_line2, le_line3, le_line4, le_line5, le_line6, le_line7, le_line8, le_line9, le_line10, le_line11, le_line12, wipeE_nil, wipeE_cons, MObj.toP, fin_d, fin_new, Seq_nx, Seq_bk, Seq_ct, Seq_rt, Br_true, Br_false, decide_true, decide_false, Bool.not_true, Bool.not_false, tl]
    exact h xss M3 g ne (f3.mono (by omega))
/-! texts -/
theorem NM_short : ∀ x ∈ NM, (PyData.str x).leavesShort 8 = true ∧ (PyData.str x).bulk ≤ 8 := by decide
theorem team_short : ∀ {xs : List Str}, (∀ x ∈ xs, x ∈ NM) → PyData.leavesShortAll 8 (xs.map .str) = true ∧ PyData.bulkAll (xs.map .str) ≤ xs.length * 9 ∧ PyData.showableAll (xs.map .str) = true
  | [], _ => ⟨rfl, Nat.le_refl _, rfl⟩
  | x :: xs, h => by
    obtain ⟨a, b, c⟩ := team_short (xs := xs) fun y hy => h y (List.mem_cons_of_mem _ hy)
    obtain ⟨d, e⟩ := NM_short x (h x (List.mem_cons_self ..))
    refine ⟨?_, ?_, ?_⟩
    · rw [List.map_cons, PyData.leavesShortAll, a, d]; rfl
    · rw [List.map_cons, PyData.bulkAll, List.length_cons]; omega
    · rw [List.map_cons, PyData.showableAll, c]; rfl
theorem teams_short : ∀ {xss : List (List Str)}, (∀ xs ∈ xss, xs.length ≤ 10 ∧ ∀ x ∈ xs, x ∈ NM) → PyData.leavesShortAll 8 (xss.map tm) = true ∧ PyData.bulkAll (xss.map tm) ≤ xss.length * 100 ∧ PyData.showableAll (xss.map tm) = true
  | [], _ => ⟨rfl, Nat.le_refl _, rfl⟩
  | x :: xs, h => by
    obtain ⟨a, b, c⟩ := teams_short (xss := xs) fun y hy => h y (List.mem_cons_of_mem _ hy)
    obtain ⟨hl, hx⟩ := h x (List.mem_cons_self ..)
    obtain ⟨d, e, f⟩ := team_short hx
    refine ⟨?_, ?_, ?_⟩
    · rw [List.map_cons, PyData.leavesShortAll, a, tm, PyData.leavesShort, d]; rfl
    · rw [List.map_cons, PyData.bulkAll, List.length_cons, tm, PyData.bulk]; omega
    · rw [List.map_cons, PyData.showableAll, c, tm, PyData.showable, f]; rfl
theorem repr_tms {xss : List (List Str)} (g : GT xss) (M : Mem) : bRepr [.p (tms xss)] M = some (.d (.p (.str (tms xss).shown)), M) := by
  obtain ⟨a, b, c⟩ := teams_short fun xs h => ⟨(g.team xs h).2.1, (g.team xs h).2.2.2⟩
  have o : okP (tms xss) = true := by
    have := okP_toD (α := Tup (Tup Str)) (by decide) ⟨xss.map mkT⟩
    rw [tms, map_tm]
    exact this
  have fits : (tms xss).shown.length ≤ sizeLine := PyData.shown_fits_bulk (B := 8) (by decide) (by decide) (by rw [tms, PyData.leavesShort]; exact a) (by
    rw [tms, PyData.bulk]
    have := g.few
    exact Nat.le_trans b (by omega))
  have r : reprOk (tms xss) = true := by
    unfold reprOk
    rw [o, Bool.true_and, decide_eq_true fits, Bool.and_true, tms, PyData.showable, c]
  simp only [bRepr, pv_p, r, if_true]
theorem repr_bool (b : Bool) (M : Mem) : bRepr [.p (.bool b)] M = some (.d (.p (.str (PyData.bool b).shown)), M) := by
  have o : okP (.bool b) = true := by simp [okP, PyData.plain, PyData.depth]
  have fits : (PyData.bool b).shown.length ≤ sizeLine := PyData.shown_fits_bulk (B := 8) (by decide) (by decide) rfl (by cases b <;> decide)
  have r : reprOk (.bool b) = true := by
    unfold reprOk
    rw [o, Bool.true_and, decide_eq_true fits, Bool.and_true]
    rfl
  simp only [bRepr, pv_p, r, if_true]
theorem ne_two (a b c d : Str) : gNe (.list [.str a, .str b]) (.list [.str c, .str d]) = some (.bool (!decide ([a, b] = [c, d]))) := gNe_toD (α := List Str) (by decide) [a, b] [c, d]
theorem ne_tms (xss : List (List Str)) : gNe (tms xss) (.tuple []) = some (.bool (!decide (xss = []))) := by
  have := gNe_toD (α := Tup (Tup Str)) (by decide) ⟨xss.map mkT⟩ ⟨[]⟩
  rw [tms, map_tm]
  refine this.trans ?_
  congr 3
  cases xss <;> simp
theorem sl_to (xss : List (List Str)) (k : Nat) (M : Mem) : dSl none (some (k : Int)) (.p (tms xss)) M = some (.d (.p (tms (xss.take k)))) := by
  rw [tms, dSl_tuple, tms, cutP, HT.sIx_none, HT.sIx_nat, List.drop_zero, Nat.sub_zero, List.map_take, List.length_map]
  congr 4
  by_cases h : k ≤ xss.length
  · rw [Nat.min_eq_left h]
  · rw [Nat.min_eq_right (by omega), List.take_of_length_le (by simp), List.take_of_length_le (by simp; omega)]
theorem sl_from (xss : List (List Str)) (k : Nat) (M : Mem) : dSl (some (k : Int)) none (.p (tms xss)) M = some (.d (.p (tms (xss.drop k)))) := by
  rw [tms, dSl_tuple, tms, cutP, HT.sIx_none, HT.sIx_nat, List.map_drop, List.length_map]
  congr 4
  by_cases h : k ≤ xss.length
  · rw [Nat.min_eq_left h, List.take_of_length_le (by simp)]
  · rw [Nat.min_eq_right (by omega), Nat.sub_self, List.take_zero, List.drop_of_length_le (by simp; omega)]
theorem tms_add {xs ys : List (List Str)} (h : xs.length + ys.length ≤ 1000) (M : Mem) : dAdd (.p (tms xs)) (.p (tms ys)) M = some (.d (.p (tms (xs ++ ys)))) := by
  rw [tms, tms, tms, List.map_append]
  exact dAdd_tuple (by rw [List.length_map, List.length_map, sizeLine_eq]; omega) M
theorem GT.sub {xss yss : List (List Str)} (g : GT xss) (h : yss.length ≤ xss.length) (h2 : ∀ y ∈ yss, y ∈ xss) : GT yss := ⟨Nat.le_trans h g.few, fun y hy => g.team y (h2 y hy)⟩
set_option maxHeartbeats 1000000 in
theorem law_math (ns : List Int) (_ : ns.length ≤ 63) : ∃ M', fs_law [.frz (ns.map .int)] [] = .ok (.d (.p (.bool true))) M' := by
  have key : Ok (fs_law [.frz (ns.map .int)] []) fun e _ => e = .d (.p (.bool true)) := by
    unfold fs_law φ_law fs__law_source φ__law_source
    have ec : ∃ c : List Int, cutP (ns.map PyData.int) none (some 63) = c.map .int := ⟨(ns.drop _).take _, by rw [cutP, List.map_take, List.map_drop]⟩
    obtain ⟨c, ec⟩ := ec
    have er : rg1 [.p (.int 8)] = some (stR 0 8) := rg1_nat (n := 8) (by decide)
    simp only [ok_eBin, ok_eUn, ok_eVar, ok_eD, ok_eIf, ok_tVal, ok_tNot, ok_tAnd, ok_tOr, ok_tTrue, ok_aNil, ok_aCons, ok_eTup, ok_eLst, ok_eCallB, ok_eSl, ok_oNone, ok_oSome, ok_eNot, ok_eAnd, ok_eOr, ok_eAl, ok_eCallU, ok_eMth, ok_sSeq, ok_sNx, ok_sBk, ok_sCt, ok_sDrop, ok_sRet, ok_sRetN, ok_sIf, ok_sSet, ok_sPar, ok_sSto, ok_sFor, ok_iE, ok_iRg, ok_eLc, ok_defF, ok_eDisp, ok_eDNew, pair_nil, pair_cons, Turn_nx, Turn_ct, Turn_bk, Turn_rt, List.take_length, startE, List.map_cons, List.map_nil, Nat.reduceSub, List.replicate_succ, List.replicate_zero, List.append_nil, Ok_ok, Ok_bad, Ok_err, Ok_ne, Ok_stl, List.getElem?_cons_zero, List.getElem?_cons_succ, List.set_cons_zero, List.set_cons_succ, Option.some.injEq, exists_eq_left', exists_eq_left, Ev.stl_d, Ev.stl_new, pv_p, pur_p, purs_nil, purs_p, onP_p, ii_int, Option.map_some, Option.bind_some, D.p.injEq, PyData.int.injEq, PyData.bool.injEq, PyData.str.injEq, PyData.tuple.injEq, PyData.list.injEq, Bool.false_eq_true, if_false, if_true, exists_two, and_true, true_and, and_self, dAdd_int, planD_nil, planD_at, planD_df, List.length_cons, List.length_nil, List.nil_append, List.cons_append, Nat.zero_add, Nat.reduceAdd, exists_some2, exists_pair2, Nat.zero_le, le_line1, le_line2, le_line3, le_line4, le_line5, le_line6, le_line7, le_line8, le_line9, le_line10, le_line11, le_line12, wipeE_nil, wipeE_cons, MObj.toP, fin_d, fin_new, Seq_nx, Seq_bk, Seq_ct, Seq_rt, Br_true, Br_false, decide_true, decide_false, Bool.not_true, Bool.not_false, dSl_frz, ec, lst_list, er]
    refine ⟨rfl, rfl, rfl, rfl, ?_⟩
    have em : ∃ M0 : Mem, (List.take 0 [] ++ [MObj.dct (mergeP [(PyData.str (Str.ofString "cells"), PyData.list (List.map PyData.int c)), (PyData.str (Str.ofString "next"), PyData.int 0), (PyData.str (Str.ofString "rest"), PyData.int 0), (PyData.str (Str.ofString "draws"), PyData.int 0)])]) = M0 ∧ Fd M0 0 0 := ⟨_, rfl, c, 0, 0, 0, rfl, by decide, by decide, by decide⟩
    obtain ⟨M0, em, f0⟩ := em
    rw [em]
    refine for_range (fun i ρ M' => Fd M' 0 (1000 * i) ∧ ∃ a2 a3 a4 a5 a6 a7 : Option D, ρ = [some (.frz (ns.map .int)), some (.obj 0), a2, a3, a4, a5, a6, a7]) (by rw [sizeLine_eq]; decide) ⟨f0, _, _, _, _, _, _, rfl⟩ ?_ ?_
    · intro i ρ M1 hi hI
      obtain ⟨f1, a2, a3, a4, a5, a6, a7, e1⟩ := hI
      subst e1
      simp only [ok_eBin, ok_eUn, ok_eVar, ok_eD, ok_eIf, ok_tVal, ok_tNot, ok_tAnd, ok_tOr, ok_tTrue, ok_aNil, ok_aCons, ok_eTup, ok_eLst, ok_eCallB, ok_eSl, ok_oNone, ok_oSome, ok_eNot, ok_eAnd, ok_eOr, ok_eAl, ok_eCallU, ok_eMth, ok_sSeq, ok_sNx, ok_sBk, ok_sCt, ok_sDrop, ok_sRet, ok_sRetN, ok_sIf, ok_sSet, ok_sPar, ok_sSto, ok_sFor, ok_iE, ok_iRg, ok_eLc, ok_defF, ok_eDisp, ok_eDNew, pair_nil, pair_cons, Turn_nx, Turn_ct, Turn_bk, Turn_rt, List.take_length, startE, List.map_cons, List.map_nil, Nat.reduceSub, List.replicate_succ, List.replicate_zero, List.append_nil, Ok_ok, Ok_bad, Ok_err, Ok_ne, Ok_stl, List.getElem?_cons_zero, List.getElem?_cons_succ, List.set_cons_zero, List.set_cons_succ, Option.some.injEq, exists_eq_left', exists_eq_left, Ev.stl_d, Ev.stl_new, pv_p, pur_p, purs_nil, purs_p, onP_p, ii_int, Option.map_some, Option.bind_some, D.p.injEq, PyData.int.injEq, PyData.bool.injEq, PyData.str.injEq, PyData.tuple.injEq, PyData.list.injEq, Bool.false_eq_true, if_false, if_true, exists_two, and_true, true_and, and_self, dAdd_int, planD_nil, planD_at, planD_df, List.length_cons, List.length_nil, List.nil_append, List.cons_append, Nat.zero_add, Nat.reduceAdd, exists_some2, exists_pair2, Nat.zero_le, le_line1, le_line2, le_line3, le_line4, le_line5, le_line6, le_line7, le_line8, le_line9, le_line10, le_line11, le_line12, wipeE_nil, wipeE_cons, MObj.toP, fin_d, fin_new, Seq_nx, Seq_bk, Seq_ct, Seq_rt, Br_true, Br_false, decide_true, decide_false, Bool.not_true, Bool.not_false]
      refine make_any_ok f1 (by omega) fun xss M2 g ne f2 => ?_
      have hpos := List.length_pos_iff.mpr ne
      have hfew := g.few
      simp only [ok_eBin, ok_eUn, ok_eVar, ok_eD, ok_eIf, ok_tVal, ok_tNot, ok_tAnd, ok_tOr, ok_tTrue, ok_aNil, ok_aCons, ok_eTup, ok_eLst, ok_eCallB, ok_eSl, ok_oNone, ok_oSome, ok_eNot, ok_eAnd, ok_eOr, ok_eAl, ok_eCallU, ok_eMth, ok_sSeq, ok_sNx, ok_sBk, ok_sCt, ok_sDrop, ok_sRet, ok_sRetN, ok_sIf, ok_sSet, ok_sPar, ok_sSto, ok_sFor, ok_iE, ok_iRg, ok_eLc, ok_defF, ok_eDisp, ok_eDNew, pair_nil, pair_cons, Turn_nx, Turn_ct, Turn_bk, Turn_rt, List.take_length, startE, List.map_cons, List.map_nil, Nat.reduceSub, List.replicate_succ, List.replicate_zero, List.append_nil, Ok_ok, Ok_bad, Ok_err, Ok_ne, Ok_stl, List.getElem?_cons_zero, List.getElem?_cons_succ, List.set_cons_zero, List.set_cons_succ, Option.some.injEq, exists_eq_left', exists_eq_left, Ev.stl_d, Ev.stl_new, pv_p, pur_p, purs_nil, purs_p, onP_p, ii_int, Option.map_some, Option.bind_some, D.p.injEq, PyData.int.injEq, PyData.bool.injEq, PyData.str.injEq, PyData.tuple.injEq, PyData.list.injEq, Bool.false_eq_true, if_false, if_true, exists_two, and_true, true_and, and_self, dAdd_int, planD_nil, planD_at, planD_df, List.length_cons, List.length_nil, List.nil_append, List.cons_append, Nat.zero_add, Nat.reduceAdd, exists_some2, exists_pair2, Nat.zero_le, le_line1, le_line2, le_line3, le_line4, le_line5, le_line6, le_line7, le_line8, le_line9, le_line10, le_line11, le_line12, wipeE_nil, wipeE_cons, MObj.toP, fin_d, fin_new, Seq_nx, Seq_bk, Seq_ct, Seq_rt, Br_true, Br_false, decide_true, decide_false, Bool.not_true, Bool.not_false, len_tms]
      refine draw_go f2 (by omega) (by omega) (by omega) fun v M3 h0 h1 f3 _ => ?_
      obtain ⟨k, rfl⟩ := Int.eq_ofNat_of_zero_le h0
      have hk : k < xss.length := by omega
      have ek : (k : Int) + 1 = ((k + 1 : Nat) : Int) := by omega
      have e1 : dSl none (some 1) (.p (tms xss)) M3 = some (.d (.p (tms (xss.take 1)))) := sl_to xss 1 M3
      have ea : (xss.take k).length + (xss.drop (k + 1)).length ≤ 1000 := by rw [List.length_take, List.length_drop]; omega
      have it : iVal (.p (.tuple [tms xss, tms (xss.take k ++ xss.drop (k + 1)), tms (xss.take 1)])) M3 = some (stL ([xss, xss.take k ++ xss.drop (k + 1), xss.take 1].map tms)) := rfl
      simp only [ok_eBin, ok_eUn, ok_eVar, ok_eD, ok_eIf, ok_tVal, ok_tNot, ok_tAnd, ok_tOr, ok_tTrue, ok_aNil, ok_aCons, ok_eTup, ok_eLst, ok_eCallB, ok_eSl, ok_oNone, ok_oSome, ok_eNot, ok_eAnd, ok_eOr, ok_eAl, ok_eCallU, ok_eMth, ok_sSeq, ok_sNx, ok_sBk, ok_sCt, ok_sDrop, ok_sRet, ok_sRetN, ok_sIf, ok_sSet, ok_sPar, ok_sSto, ok_sFor, ok_iE, ok_iRg, ok_eLc, ok_defF, ok_eDisp, ok_eDNew, pair_nil, pair_cons, Turn_nx, Turn_ct, Turn_bk, Turn_rt, List.take_length, startE, List.map_cons, List.map_nil, Nat.reduceSub, List.replicate_succ, List.replicate_zero, List.append_nil, Ok_ok, Ok_bad, Ok_err, Ok_ne, Ok_stl, List.getElem?_cons_zero, List.getElem?_cons_succ, List.set_cons_zero, List.set_cons_succ, Option.some.injEq, exists_eq_left', exists_eq_left, Ev.stl_d, Ev.stl_new, pv_p, pur_p, purs_nil, purs_p, onP_p, ii_int, Option.map_some, Option.bind_some, D.p.injEq, PyData.int.injEq, PyData.bool.injEq, PyData.str.injEq, PyData.tuple.injEq, PyData.list.injEq, Bool.false_eq_true, if_false, if_true, exists_two, and_true, true_and, and_self, dAdd_int, planD_nil, planD_at, planD_df, List.length_cons, List.length_nil, List.nil_append, List.cons_append, Nat.zero_add, Nat.reduceAdd, exists_some2, exists_pair2, Nat.zero_le, le_line1, le_line2, le_line3, le_line4, le_line5, le_line6, le_line7, le_line8, le_line9, le_line10, le_line11, le_line12, wipeE_nil, wipeE_cons, MObj.toP, fin_d, fin_new, Seq_nx, Seq_bk, Seq_ct, Seq_rt, Br_true, Br_false, decide_true, decide_false, Bool.not_true, Bool.not_false, sl_to, ek, sl_from, e1, tms_add ea, it]
      have hall : ∀ yss ∈ [xss, xss.take k ++ xss.drop (k + 1), xss.take 1], GT yss := by
        intro yss hy
        rcases List.mem_cons.mp hy with rfl | hy
        · exact g
        rcases List.mem_cons.mp hy with rfl | hy
        · refine g.sub (by rw [List.length_append, List.length_take, List.length_drop]; omega) fun y h => ?_
          rcases List.mem_append.mp h with h | h
          · exact List.mem_of_mem_take h
          · exact List.mem_of_mem_drop h
        rw [List.mem_singleton.mp hy]
        exact g.sub (by rw [List.length_take]; omega) fun y h => List.mem_of_mem_take h
      have hthree : [xss, xss.take k ++ xss.drop (k + 1), xss.take 1].length ≤ sizeLine := le_line3 ▸ trivial
      have e3 : [tms xss, tms (xss.take k ++ xss.drop (k + 1)), tms (xss.take 1)] = [xss, xss.take k ++ xss.drop (k + 1), xss.take 1].map tms := rfl
      rw [e3]
      generalize [xss, xss.take k ++ xss.drop (k + 1), xss.take 1] = three at hall hthree ⊢
      refine for_list (fun j ρ M' => M' = M3 ∧ ∃ a5 a6 a7 : Option D, ρ = [some (.frz (ns.map .int)), some (.obj 0), some (.p (.int (0 + (i : Int)))), some (.p (tms xss)), some (.p (.int (k : Int))), a5, a6, a7]) (by rw [List.length_map]; exact hthree) ⟨rfl, _, _, _, rfl⟩ ?_ ?_
      · intro j x ρ M' hx hI
        obtain ⟨e1, a5, a6, a7, e2⟩ := hI
        subst e1
        subst e2
        rw [List.getElem?_map] at hx
        obtain ⟨yss, e1, e3⟩ := Option.map_eq_some_iff.mp hx
        subst e3
        have gy := hall yss (List.mem_of_getElem? e1)
        simp only [ok_eBin, ok_eUn, ok_eVar, ok_eD, ok_eIf, ok_tVal, ok_tNot, ok_tAnd, ok_tOr, ok_tTrue, ok_aNil, ok_aCons, ok_eTup, ok_eLst, ok_eCallB, ok_eSl, ok_oNone, ok_oSome, ok_eNot, ok_eAnd, ok_eOr, ok_eAl, ok_eCallU, ok_eMth, ok_sSeq, ok_sNx, ok_sBk, ok_sCt, ok_sDrop, ok_sRet, ok_sRetN, ok_sIf, ok_sSet, ok_sPar, ok_sSto, ok_sFor, ok_iE, ok_iRg, ok_eLc, ok_defF, ok_eDisp, ok_eDNew, pair_nil, pair_cons, Turn_nx, Turn_ct, Turn_bk, Turn_rt, List.take_length, startE, List.map_cons, List.map_nil, Nat.reduceSub, List.replicate_succ, List.replicate_zero, List.append_nil, Ok_ok, Ok_bad, Ok_err, Ok_ne, Ok_stl, List.getElem?_cons_zero, List.getElem?_cons_succ, List.set_cons_zero, List.set_cons_succ, Option.some.injEq, exists_eq_left', exists_eq_left, Ev.stl_d, Ev.stl_new, pv_p, pur_p, purs_nil, purs_p, onP_p, ii_int, Option.map_some, Option.bind_some, D.p.injEq, PyData.int.injEq, PyData.bool.injEq, PyData.str.injEq, PyData.tuple.injEq, PyData.list.injEq, Bool.false_eq_true, if_false, if_true, exists_two, and_true, true_and, and_self, dAdd_int, planD_nil, planD_at, planD_df, List.length_cons, List.length_nil, List.nil_append, List.cons_append, Nat.zero_add, Nat.reduceAdd, exists_some2, exists_pair2, Nat.zero_le, le_line1, le_line2, le_line3, le_line4, le_line5, le_line6, le_line7, le_line8, le_line9, le_line10, le_line11, le_line12, wipeE_nil, wipeE_cons, MObj.toP, fin_d, fin_new, Seq_nx, Seq_bk, Seq_ct, Seq_rt, Br_true, Br_false, decide_true, decide_false, Bool.not_true, Bool.not_false, ne_tms]
        refine Br.by (fun e => ?_) fun e => ?_
        · simp only [ok_eBin, ok_eUn, ok_eVar, ok_eD, ok_eIf, ok_tVal, ok_tNot, ok_tAnd, ok_tOr, ok_tTrue, ok_aNil, ok_aCons, ok_eTup, ok_eLst, ok_eCallB, ok_eSl, ok_oNone, ok_oSome, ok_eNot, ok_eAnd, ok_eOr, ok_eAl, ok_eCallU, ok_eMth, ok_sSeq, ok_sNx, ok_sBk, ok_sCt, ok_sDrop, ok_sRet, ok_sRetN, ok_sIf, ok_sSet, ok_sPar, ok_sSto, ok_sFor, ok_iE, ok_iRg, ok_eLc, ok_defF, ok_eDisp, ok_eDNew, pair_nil, pair_cons, Turn_nx, Turn_ct, Turn_bk, Turn_rt, List.take_length, startE, List.map_cons, List.map_nil, Nat.reduceSub, List.replicate_succ, List.replicate_zero, List.append_nil, Ok_ok, Ok_bad, Ok_err, Ok_ne, Ok_stl, List.getElem?_cons_zero, List.getElem?_cons_succ, List.set_cons_zero, List.set_cons_succ, Option.some.injEq, exists_eq_left', exists_eq_left, Ev.stl_d, Ev.stl_new, pv_p, pur_p, purs_nil, purs_p, onP_p, ii_int, Option.map_some, Option.bind_some, D.p.injEq, PyData.int.injEq, PyData.bool.injEq, PyData.str.injEq, PyData.tuple.injEq, PyData.list.injEq, Bool.false_eq_true, if_false, if_true, exists_two, and_true, true_and, and_self, dAdd_int, planD_nil, planD_at, planD_df, List.length_cons, List.length_nil, List.nil_append, List.cons_append, Nat.zero_add, Nat.reduceAdd, exists_some2, exists_pair2, Nat.zero_le, le_line1, le_line2, le_line3, le_line4, le_line5, le_line6, le_line7, le_line8, le_line9, le_line10, le_line11, le_line12, wipeE_nil, wipeE_cons, MObj.toP, fin_d, fin_new, Seq_nx, Seq_bk, Seq_ct, Seq_rt, Br_true, Br_false, decide_true, decide_false, Bool.not_true, Bool.not_false, repr_tms gy]
          refine law_is_good_ok gy ?_
          simp only [ok_eBin, ok_eUn, ok_eVar, ok_eD, ok_eIf, ok_tVal, ok_tNot, ok_tAnd, ok_tOr, ok_tTrue, ok_aNil, ok_aCons, ok_eTup, ok_eLst, ok_eCallB, ok_eSl, ok_oNone, ok_oSome, ok_eNot, ok_eAnd, ok_eOr, ok_eAl, ok_eCallU, ok_eMth, ok_sSeq, ok_sNx, ok_sBk, ok_sCt, ok_sDrop, ok_sRet, ok_sRetN, ok_sIf, ok_sSet, ok_sPar, ok_sSto, ok_sFor, ok_iE, ok_iRg, ok_eLc, ok_defF, ok_eDisp, ok_eDNew, pair_nil, pair_cons, Turn_nx, Turn_ct, Turn_bk, Turn_rt, List.take_length, startE, List.map_cons, List.map_nil, Nat.reduceSub, List.replicate_succ, List.replicate_zero, List.append_nil, Ok_ok, Ok_bad, Ok_err, Ok_ne, Ok_stl, List.getElem?_cons_zero, List.getElem?_cons_succ, List.set_cons_zero, List.set_cons_succ, Option.some.injEq, exists_eq_left', exists_eq_left, Ev.stl_d, Ev.stl_new, pv_p, pur_p, purs_nil, purs_p, onP_p, ii_int, Option.map_some, Option.bind_some, D.p.injEq, PyData.int.injEq, PyData.bool.injEq, PyData.str.injEq, PyData.tuple.injEq, PyData.list.injEq, Bool.false_eq_true, if_false, if_true, exists_two, and_true, true_and, and_self, dAdd_int, planD_nil, planD_at, planD_df, List.length_cons, List.length_nil, List.nil_append, List.cons_append, Nat.zero_add, Nat.reduceAdd, exists_some2, exists_pair2, Nat.zero_le, le_line1, le_line2, le_line3, le_line4, le_line5, le_line6, le_line7, le_line8, le_line9, le_line10, le_line11, le_line12, wipeE_nil, wipeE_cons, MObj.toP, fin_d, fin_new, Seq_nx, Seq_bk, Seq_ct, Seq_rt, Br_true, Br_false, decide_true, decide_false, Bool.not_true, Bool.not_false, repr_bool]
          refine is_good_ok gy ?_
          simp only [ok_eBin, ok_eUn, ok_eVar, ok_eD, ok_eIf, ok_tVal, ok_tNot, ok_tAnd, ok_tOr, ok_tTrue, ok_aNil, ok_aCons, ok_eTup, ok_eLst, ok_eCallB, ok_eSl, ok_oNone, ok_oSome, ok_eNot, ok_eAnd, ok_eOr, ok_eAl, ok_eCallU, ok_eMth, ok_sSeq, ok_sNx, ok_sBk, ok_sCt, ok_sDrop, ok_sRet, ok_sRetN, ok_sIf, ok_sSet, ok_sPar, ok_sSto, ok_sFor, ok_iE, ok_iRg, ok_eLc, ok_defF, ok_eDisp, ok_eDNew, pair_nil, pair_cons, Turn_nx, Turn_ct, Turn_bk, Turn_rt, List.take_length, startE, List.map_cons, List.map_nil, Nat.reduceSub, List.replicate_succ, List.replicate_zero, List.append_nil, Ok_ok, Ok_bad, Ok_err, Ok_ne, Ok_stl, List.getElem?_cons_zero, List.getElem?_cons_succ, List.set_cons_zero, List.set_cons_succ, Option.some.injEq, exists_eq_left', exists_eq_left, Ev.stl_d, Ev.stl_new, pv_p, pur_p, purs_nil, purs_p, onP_p, ii_int, Option.map_some, Option.bind_some, D.p.injEq, PyData.int.injEq, PyData.bool.injEq, PyData.str.injEq, PyData.tuple.injEq, PyData.list.injEq, Bool.false_eq_true, if_false, if_true, exists_two, and_true, true_and, and_self, dAdd_int, planD_nil, planD_at, planD_df, List.length_cons, List.length_nil, List.nil_append, List.cons_append, Nat.zero_add, Nat.reduceAdd, exists_some2, exists_pair2, Nat.zero_le, le_line1, le_line2, le_line3, le_line4, le_line5, le_line6, le_line7, le_line8, le_line9, le_line10, le_line11, le_line12, wipeE_nil, wipeE_cons, MObj.toP, fin_d, fin_new, Seq_nx, Seq_bk, Seq_ct, Seq_rt, Br_true, Br_false, decide_true, decide_false, Bool.not_true, Bool.not_false, repr_bool]
          refine is_good_ok gy ?_
          simp only [ok_eBin, ok_eUn, ok_eVar, ok_eD, ok_eIf, ok_tVal, ok_tNot, ok_tAnd, ok_tOr, ok_tTrue, ok_aNil, ok_aCons, ok_eTup, ok_eLst, ok_eCallB, ok_eSl, ok_oNone, ok_oSome, ok_eNot, ok_eAnd, ok_eOr, ok_eAl, ok_eCallU, ok_eMth, ok_sSeq, ok_sNx, ok_sBk, ok_sCt, ok_sDrop, ok_sRet, ok_sRetN, ok_sIf, ok_sSet, ok_sPar, ok_sSto, ok_sFor, ok_iE, ok_iRg, ok_eLc, ok_defF, ok_eDisp, ok_eDNew, pair_nil, pair_cons, Turn_nx, Turn_ct, Turn_bk, Turn_rt, List.take_length, startE, List.map_cons, List.map_nil, Nat.reduceSub, List.replicate_succ, List.replicate_zero, List.append_nil, Ok_ok, Ok_bad, Ok_err, Ok_ne, Ok_stl, List.getElem?_cons_zero, List.getElem?_cons_succ, List.set_cons_zero, List.set_cons_succ, Option.some.injEq, exists_eq_left', exists_eq_left, Ev.stl_d, Ev.stl_new, pv_p, pur_p, purs_nil, purs_p, onP_p, ii_int, Option.map_some, Option.bind_some, D.p.injEq, PyData.int.injEq, PyData.bool.injEq, PyData.str.injEq, PyData.tuple.injEq, PyData.list.injEq, Bool.false_eq_true, if_false, if_true, exists_two, and_true, true_and, and_self, dAdd_int, planD_nil, planD_at, planD_df, List.length_cons, List.length_nil, List.nil_append, List.cons_append, Nat.zero_add, Nat.reduceAdd, exists_some2, exists_pair2, Nat.zero_le, le_line1, le_line2, le_line3, le_line4, le_line5, le_line6, le_line7, le_line8, le_line9, le_line10, le_line11, le_line12, wipeE_nil, wipeE_cons, MObj.toP, fin_d, fin_new, Seq_nx, Seq_bk, Seq_ct, Seq_rt, Br_true, Br_false, decide_true, decide_false, Bool.not_true, Bool.not_false, repr_bool, ne_two, repr_tms gy, ne_str]
          exact ⟨_, _, _, rfl⟩
        · simp only [ok_eBin, ok_eUn, ok_eVar, ok_eD, ok_eIf, ok_tVal, ok_tNot, ok_tAnd, ok_tOr, ok_tTrue, ok_aNil, ok_aCons, ok_eTup, ok_eLst, ok_eCallB, ok_eSl, ok_oNone, ok_oSome, ok_eNot, ok_eAnd, ok_eOr, ok_eAl, ok_eCallU, ok_eMth, ok_sSeq, ok_sNx, ok_sBk, ok_sCt, ok_sDrop, ok_sRet, ok_sRetN, ok_sIf, ok_sSet, ok_sPar, ok_sSto, ok_sFor, ok_iE, ok_iRg, ok_eLc, ok_defF, ok_eDisp, ok_eDNew, pair_nil, pair_cons, Turn_nx, Turn_ct, Turn_bk, Turn_rt, List.take_length, startE, List.map_cons, List.map_nil, Nat.reduceSub, List.replicate_succ, List.replicate_zero, List.append_nil, Ok_ok, Ok_bad, Ok_err, Ok_ne, Ok_stl, List.getElem?_cons_zero, List.getElem?_cons_succ, List.set_cons_zero, List.set_cons_succ, Option.some.injEq, exists_eq_left', exists_eq_left, Ev.stl_d, Ev.stl_new, pv_p, pur_p, purs_nil, purs_p, onP_p, ii_int, Option.map_some, Option.bind_some, D.p.injEq, PyData.int.injEq, PyData.bool.injEq, PyData.str.injEq, PyData.tuple.injEq, PyData.list.injEq, Bool.false_eq_true, if_false, if_true, exists_two, and_true, true_and, and_self, dAdd_int, planD_nil, planD_at, planD_df, List.length_cons, List.length_nil, List.nil_append, List.cons_append, Nat.zero_add, Nat.reduceAdd, exists_some2, exists_pair2, Nat.zero_le, le_line1, le_line2, le_line3, le_line4, le_line5, le_line6, le_line7, le_line8, le_line9, le_line10, le_line11, le_line12, wipeE_nil, wipeE_cons, MObj.toP, fin_d, fin_new, Seq_nx, Seq_bk, Seq_ct, Seq_rt, Br_true, Br_false, decide_true, decide_false, Bool.not_true, Bool.not_false]
          exact ⟨_, _, _, rfl⟩
      · intro ρ M' hI
        obtain ⟨e1, a5, a6, a7, e2⟩ := hI
        subst e1
        subst e2
        simp only [ok_eBin, ok_eUn, ok_eVar, ok_eD, ok_eIf, ok_tVal, ok_tNot, ok_tAnd, ok_tOr, ok_tTrue, ok_aNil, ok_aCons, ok_eTup, ok_eLst, ok_eCallB, ok_eSl, ok_oNone, ok_oSome, ok_eNot, ok_eAnd, ok_eOr, ok_eAl, ok_eCallU, ok_eMth, ok_sSeq, ok_sNx, ok_sBk, ok_sCt, ok_sDrop, ok_sRet, ok_sRetN, ok_sIf, ok_sSet, ok_sPar, ok_sSto, ok_sFor, ok_iE, ok_iRg, ok_eLc, ok_defF, ok_eDisp, ok_eDNew, pair_nil, pair_cons, Turn_nx, Turn_ct, Turn_bk, Turn_rt, List.take_length, startE, List.map_cons, List.map_nil, Nat.reduceSub, List.replicate_succ, List.replicate_zero, List.append_nil, Ok_ok, Ok_bad, Ok_err, Ok_ne, Ok_stl, List.getElem?_cons_zero, List.getElem?_cons_succ, List.set_cons_zero, List.set_cons_succ, Option.some.injEq, exists_eq_left', exists_eq_left, Ev.stl_d, Ev.stl_new, pv_p, pur_p, purs_nil, purs_p, onP_p, ii_int, Option.map_some, Option.bind_some, D.p.injEq, PyData.int.injEq, PyData.bool.injEq, PyData.str.injEq, PyData.tuple.injEq, PyData.list.injEq, Bool.false_eq_true, if_false, if_true, exists_two, and_true, true_and, and_self, dAdd_int, planD_nil, planD_at, planD_df, List.length_cons, List.length_nil, List.nil_append, List.cons_append, Nat.zero_add, Nat.reduceAdd, exists_some2, exists_pair2, Nat.zero_le, le_line1, le_line2, le_line3, le_line4, le_line5, le_line6, le_line7, le_line8, le_line9, le_line10, le_line11, le_line12, wipeE_nil, wipeE_cons, MObj.toP, fin_d, fin_new, Seq_nx, Seq_bk, Seq_ct, Seq_rt, Br_true, Br_false, decide_true, decide_false, Bool.not_true, Bool.not_false]
        exact ⟨f3.mono (by omega), _, _, _, _, _, _, rfl⟩
    · intro ρ M1 hI
      obtain ⟨f1, a2, a3, a4, a5, a6, a7, e1⟩ := hI
      subst e1
      simp only [ok_eBin, ok_eUn, ok_eVar, ok_eD, ok_eIf, ok_tVal, ok_tNot, ok_tAnd, ok_tOr, ok_tTrue, ok_aNil, ok_aCons, ok_eTup, ok_eLst, ok_eCallB, ok_eSl, ok_oNone, ok_oSome, ok_eNot, ok_eAnd, ok_eOr, ok_eAl, ok_eCallU, ok_eMth, ok_sSeq, ok_sNx, ok_sBk, ok_sCt, ok_sDrop, ok_sRet, ok_sRetN, ok_sIf, ok_sSet, ok_sPar, ok_sSto, ok_sFor, ok_iE, ok_iRg, ok_eLc, ok_defF, ok_eDisp, ok_eDNew, pair_nil, pair_cons, Turn_nx, Turn_ct, Turn_bk, Turn_rt, List.take_length, startE, List.map_cons, List.map_nil, Nat.reduceSub, List.replicate_succ, List.replicate_zero, List.append_nil, Ok_ok, Ok_bad, Ok_err, Ok_ne, Ok_stl, List.getElem?_cons_zero, List.getElem?_cons_succ, List.set_cons_zero, List.set_cons_succ, Option.some.injEq, exists_eq_left', exists_eq_left, Ev.stl_d, Ev.stl_new, pv_p, pur_p, purs_nil, purs_p, onP_p, ii_int, Option.map_some, Option.bind_some, D.p.injEq, PyData.int.injEq, PyData.bool.injEq, PyData.str.injEq, PyData.tuple.injEq, PyData.list.injEq, Bool.false_eq_true, if_false, if_true, exists_two, and_true, true_and, and_self, dAdd_int, planD_nil, planD_at, planD_df, List.length_cons, List.length_nil, List.nil_append, List.cons_append, Nat.zero_add, Nat.reduceAdd, exists_some2, exists_pair2, Nat.zero_le, le_line1, le_line2, le_line3, le_line4, le_line5, le_line6, le_line7, le_line8, le_line9, le_line10, le_line11, le_line12, wipeE_nil, wipeE_cons, MObj.toP, fin_d, fin_new, Seq_nx, Seq_bk, Seq_ct, Seq_rt, Br_true, Br_false, decide_true, decide_false, Bool.not_true, Bool.not_false]
  obtain ⟨e, M', h1, h2⟩ := key.get
  subst h2
  exact ⟨M', h1⟩
end LK49

open PySem PySem.W PyProof.Rows
set_option maxHeartbeats 0 in
theorem PySem.Challenge.cw_crewbook_k49_good_crews_told_holds : PySem.Challenge.rw_crewbook_k49_good_crews_told.Holds := by
  w_on; o_law; k_head; (case hw => w_witness2)
  k_fill
  refine Cb.walk_g (l := PySem.Challenge.rw_crewbook_k49_good_crews_told) (n := 63) (k := 5) (x := "_law_script") (fs := LK49.fs_law) rfl (by decide) rfl ⟨rfl, by decide, by decide⟩ (fun w h Y => PySem.W.kIn_of Y) ?F LK49.law_math
  case F =>
    intro w mg fa h KX G hmg
    refine' LK49.all_mk KX G hmg ?a1 ?l1 ?c1 ?k1 ?a2 ?l2 ?c2 ?k2 ?a3 ?l3 ?c3 ?k3 ?a4 ?l4 ?c4 ?k4 ?a5 ?l5 ?c5 ?k5 ?a6 ?l6 ?c6 ?k6 ?a7 ?l7 ?c7 ?k7 ?a8 ?l8 ?c8 ?k8 ?a9 ?l9 ?c9 ?k9 ?a10 ?l10 ?c10 ?k10 ?a11 ?l11 ?c11 ?k11 ?a12 ?l12 ?c12 ?k12 ?a13 ?l13 ?c13 ?k13 ?a14 ?l14 ?c14 ?k14 ?a15 ?l15 ?c15 ?k15 ?a16 ?l16 ?c16 ?k16 ?z0 ?z1 ?z2 ?z3 ?z4 ?z5 ?z6 ?z7 ?z8 ?z9
    (case a1 => k_is); (case l1 => k_is); (case c1 => k_is); (case k1 => k_is); (case a2 => k_is); (case l2 => k_is); (case c2 => k_is); (case k2 => k_is); (case a3 => k_is); (case l3 => k_is); (case c3 => k_is); (case k3 => k_is); (case a4 => k_is); (case l4 => k_is); (case c4 => k_is); (case k4 => k_is); (case a5 => k_is); (case l5 => k_is); (case c5 => k_is); (case k5 => k_is); (case a6 => k_is); (case l6 => k_is); (case c6 => k_is); (case k6 => k_is); (case a7 => k_is); (case l7 => k_is); (case c7 => k_is); (case k7 => k_is); (case a8 => k_is); (case l8 => k_is); (case c8 => k_is); (case k8 => k_is); (case a9 => k_is); (case l9 => k_is); (case c9 => k_is); (case k9 => k_is); (case a10 => k_is); (case l10 => k_is); (case c10 => k_is); (case k10 => k_is); (case a11 => k_is); (case l11 => k_is); (case c11 => k_is); (case k11 => k_is); (case a12 => k_is); (case l12 => k_is); (case c12 => k_is); (case k12 => k_is); (case a13 => k_is); (case l13 => k_is); (case c13 => k_is); (case k13 => k_is); (case a14 => k_is); (case l14 => k_is); (case c14 => k_is); (case k14 => k_is); (case a15 => k_is); (case l15 => k_is); (case c15 => k_is); (case k15 => k_is); (case a16 => k_is); (case l16 => k_is); (case c16 => k_is); (case k16 => k_is); (case z0 => k_is); (case z1 => k_is); (case z2 => k_is); (case z3 => k_is); (case z4 => k_is); (case z5 => k_is); (case z6 => k_is); (case z7 => k_is); (case z8 => k_is); (case z9 => k_is)

