import PyProof.Rows.All
import Wide.All
import OpenK.AllK
import Wide.FinOn
import KE.KStateDown
import HandS.ForMost
import HandS.Exc
import HandS.TryOnly
import HandS.ExcOwn
import HandS.WordsExc
import HandS.Defaults
import HandS.HeadHook1
import HandS.HeadHook2
import HandS.Wide
import HandS.TupAny
import HandS.Deep
import PyProof.ReprRoads
import HandS.SetFor
import HandS.Conv
import KE.KEqDict
import HandS.More
import HandS.DictComp
import HandS.Iter
import KE.KExcSuper
import KE.KExcIs
import KE.KIsAll
import HandS.ExcValue
import HandS.Head0
import HandS.Head1
import HandS.Head2
import HandS.HeadEnd
import PySem.Challenge.RW_contraryrolls_k89_errors_keep_any_value
set_option Elab.async false
set_option autoImplicit false
set_option linter.all false
set_option maxRecDepth 100000
set_option maxHeartbeats 4000000
/-! Mp0: plain values, own cells, how they stand in the layer's abstract heap; meanings and their readings. -/
namespace Mp
open PySem PySem.Spec L2

inductive IV where
  | non
  | bl (b : Bool)
  | int (i : Int)
  | str (s : Str)
  | ty (n : String)
  | glo (x : Str)
  | ref (n : Nat)
  | tup (xs : List IV)
  | lst (xs : List IV)
  | scr (xs : List IV)
  | dic (ks vs : List IV)
  | ins (C : Str) (ns : List Str) (vs : List IV)
  | err (C : Str) (v : IV)

inductive Cell where
  | lst (xs : List IV)
  | dic (ks vs : List IV)
  | ins (C : Str) (ns : List Str) (vs : List IV)
  | dead

/-- how an expression ends -/
inductive Res where
  | ok (r : IV) (h : List Cell)
  | exc (C : Str) (v : IV) (h : List Cell)
  | stuck

/-- own cells' addresses, the cells, the tracked heap; hid: lists in the making that no value names -/
structure Sg where
  α : List Addr
  h : List Cell
  H : Hp
  hid : List Addr

def live (s : Sg) (a : Addr) : Prop := ∃ (n : Nat) (o : Cell), s.α[n]? = some a ∧ s.h[n]? = some o ∧ o ≠ Cell.dead
/-- a thing that no longer changes -/
def Fz (s : Sg) (a : Addr) (u : HO) : Prop := (¬ live s a ∧ a ∉ s.hid) ∧ Rd s.H a u
def At (s : Sg) (n : Nat) (a : Addr) : Prop := s.α[n]? = some a

def keyIV : Key → IV
  | .inl i => .int i
  | .inr s => .str s

/-- an own error that is held as a value: its class, its own dict at d -/
def ErrO (C d a : Addr) : HO := .ext fun h => ∃ (oe : Obj) (vs : Array Value), h.get? a = some oe ∧ oe.cls = .ref C ∧ oe.dict = some d ∧ oe.data = .fields vs ∧ vs[1]? = some .none ∧ vs[2]? = some .none ∧ 4 < vs.size

mutual
def Rv (K : PySem.W.Frag) (A : Nat → Addr → Prop) (F : Addr → HO → Prop) : IV → V → Prop
  | .non, v => v = .non
  | .bl b, v => v = .bl b
  | .int i, v => v = .int i
  | .str z, v => v = .str z
  | .ty n, v => v = .ty n
  | .glo x, v => v = .ref (He.ga K x)
  | .ref n, v => ∃ a, A n a ∧ v = .ref a
  | .tup xs, v => ∃ a ys, v = .ref a ∧ (F a (.tup ys) ∨ SqT K (fun _ => none) a ys) ∧ Rvs K A F xs ys
  | .lst xs, v => ∃ a ys, v = .ref a ∧ F a (.lst ys) ∧ Rvs K A F xs ys
  | .scr xs, v => ∃ a ys, v = .ref a ∧ (F a (.lst ys) ∨ SqL K (fun _ => none) a ys) ∧ Rvs K A F xs ys
  | .dic ks vs, v => ∃ a, v = .ref a ∧ ((∃ kvs : List (Key × V), F a (.dK kvs) ∧ ks = kvs.map (fun p => keyIV p.1) ∧ Rvs K A F vs (kvs.map (·.2))) ∨
      ∃ kvs : List (List Key × V), F a (.dT kvs) ∧ ks = kvs.map (fun p => IV.tup (p.1.map keyIV)) ∧ Rvs K A F vs (kvs.map (·.2)))
  | .ins C ns vs, v => ∃ a dx ys, v = .ref a ∧ F a (.ins (He.ga K C) dx (ns.zip ys)) ∧ ns.length = ys.length ∧ Rvs K A F vs ys
  | .err C x, v => ∃ a d y, v = .ref a ∧ F a (ErrO (He.ga K C) d a) ∧ F d (.xd [(("value" : Str), y)]) ∧ Rv K A F x y
def Rvs (K : PySem.W.Frag) (A : Nat → Addr → Prop) (F : Addr → HO → Prop) : List IV → List V → Prop
  | [], ys => ys = []
  | x :: xs, ys => ∃ z zs, ys = z :: zs ∧ Rv K A F x z ∧ Rvs K A F xs zs
end

section
variable {K : PySem.W.Frag} {A A' : Nat → Addr → Prop} {F F' : Addr → HO → Prop}
mutual
theorem Rv.mono (ha : ∀ n a, A n a → A' n a) (hf : ∀ a u, F a u → F' a u) : ∀ (x : IV) (v : V), Rv K A F x v → Rv K A' F' x v
  | .non, _, h => h
  | .bl _, _, h => h
  | .int _, _, h => h
  | .str _, _, h => h
  | .ty _, _, h => h
  | .glo _, _, h => h
  | .ref n, _, h => by
    simp only [Rv] at h ⊢
    obtain ⟨a, h1, h2⟩ := h
    exact ⟨a, ha _ _ h1, h2⟩
  | .tup xs, _, h => by
    simp only [Rv] at h ⊢
    obtain ⟨a, ys, e, h1, h2⟩ := h
    exact ⟨a, ys, e, h1.imp (hf _ _) id, Rvs.mono ha hf xs ys h2⟩
  | .lst xs, _, h => by
    simp only [Rv] at h ⊢
    obtain ⟨a, ys, e, h1, h2⟩ := h
    exact ⟨a, ys, e, hf _ _ h1, Rvs.mono ha hf xs ys h2⟩
  | .scr xs, _, h => by
    simp only [Rv] at h ⊢
    obtain ⟨a, ys, e, h1, h2⟩ := h
    exact ⟨a, ys, e, h1.imp (hf _ _) id, Rvs.mono ha hf xs ys h2⟩
  | .dic ks vs, _, h => by
    simp only [Rv] at h ⊢
    obtain ⟨a, e, h1⟩ := h
    refine ⟨a, e, h1.imp ?_ ?_⟩
    · rintro ⟨kvs, q1, q2, q3⟩
      exact ⟨kvs, hf _ _ q1, q2, Rvs.mono ha hf vs _ q3⟩
    · rintro ⟨kvs, q1, q2, q3⟩
      exact ⟨kvs, hf _ _ q1, q2, Rvs.mono ha hf vs _ q3⟩
  | .ins C ns vs, _, h => by
    simp only [Rv] at h ⊢
    obtain ⟨a, dx, ys, e, h1, h2, h3⟩ := h
    exact ⟨a, dx, ys, e, hf _ _ h1, h2, Rvs.mono ha hf vs ys h3⟩
  | .err C x, _, h => by
    simp only [Rv] at h ⊢
    obtain ⟨a, d, y, e, h1, h2, h3⟩ := h
    exact ⟨a, d, y, e, hf _ _ h1, hf _ _ h2, Rv.mono ha hf x y h3⟩
theorem Rvs.mono (ha : ∀ n a, A n a → A' n a) (hf : ∀ a u, F a u → F' a u) : ∀ (xs : List IV) (ys : List V), Rvs K A F xs ys → Rvs K A' F' xs ys
  | [], _, h => by
    simp only [Rvs] at h ⊢
    exact h
  | x :: xs, ys, h => by
    simp only [Rvs] at h ⊢
    obtain ⟨z, zs, e, h1, h2⟩ := h
    exact ⟨z, zs, e, Rv.mono ha hf x z h1, Rvs.mono ha hf xs zs h2⟩
end
end

/-- a value in a state -/
abbrev RV (K : PySem.W.Frag) (s : Sg) : IV → V → Prop := Rv K (At s) (Fz s)
abbrev RVs (K : PySem.W.Frag) (s : Sg) : List IV → List V → Prop := Rvs K (At s) (Fz s)
/-- slots: what has a value in the one has it in the other -/
structure RE (K : PySem.W.Frag) (s : Sg) (ρ : List (Option IV)) (σ : St) : Prop where
  len : ρ.length = σ.length
  at_ : ∀ (i : Nat) (x : IV), ρ[i]? = some (some x) → ∃ v, σ[i]? = some (some v) ∧ RV K s x v
def RO (K : PySem.W.Frag) (s : Sg) : Cell → Option HO → Prop
  | .lst xs, o => ∃ ys, o = some (.lst ys) ∧ RVs K s xs ys
  | .dic ks vs, o => (∃ kvs : List (Key × V), o = some (.dK kvs) ∧ ks = kvs.map (fun p => keyIV p.1) ∧ RVs K s vs (kvs.map (·.2))) ∨
      ∃ kvs : List (List Key × V), o = some (.dT kvs) ∧ ks = kvs.map (fun p => IV.tup (p.1.map keyIV)) ∧ RVs K s vs (kvs.map (·.2))
  | .ins C ns vs, o => ∃ dx ys, o = some (.ins (He.ga K C) dx (ns.zip ys)) ∧ ns.length = ys.length ∧ RVs K s vs ys
  | .dead, o => ∃ u, o = some u
structure RS (K : PySem.W.Frag) (s : Sg) : Prop where
  len : s.α.length = s.h.length
  nd : s.α.Nodup
  ob : ∀ (n : Nat) (a : Addr) (o : Cell), s.α[n]? = some a → s.h[n]? = some o → RO K s o (s.H a)
  hd : ∀ a ∈ s.hid, a ∉ s.α ∧ ∃ o, s.H a = some o
/-- a later state -/
structure Ext (s s' : Sg) : Prop where
  pre : ∃ t, s'.α = s.α ++ t
  fz : ∀ a u, Fz s a u → Fz s' a u
  hd : s'.hid = s.hid
  hx : ∀ a ∈ s.hid, s'.H a = s.H a

/-- what a later state keeps of values -/
structure Ext0 (s s' : Sg) : Prop where
  pre : ∃ t, s'.α = s.α ++ t
  fz : ∀ a u, Fz s a u → Fz s' a u
theorem Ext.e0 {s s' : Sg} (e : Ext s s') : Ext0 s s' := ⟨e.pre, e.fz⟩
theorem Ext0.trans {s s1 s2 : Sg} (a : Ext0 s s1) (b : Ext0 s1 s2) : Ext0 s s2 := by
  obtain ⟨t, e⟩ := a.pre
  obtain ⟨u, e2⟩ := b.pre
  exact ⟨⟨t ++ u, by rw [e2, e, List.append_assoc]⟩, fun x o h => b.fz x o (a.fz x o h)⟩
theorem Ext0.at_ {s s' : Sg} (e : Ext0 s s') {n : Nat} {a : Addr} (h : At s n a) : At s' n a := by
  obtain ⟨t, q⟩ := e.pre
  unfold At at h ⊢
  rw [q, List.getElem?_append_left (List.getElem?_eq_some_iff.mp h).1]
  exact h
theorem Ext.refl (s : Sg) : Ext s s := ⟨⟨[], (List.append_nil _).symm⟩, fun _ _ h => h, rfl, fun _ _ => rfl⟩
theorem Ext.trans {s s1 s2 : Sg} (a : Ext s s1) (b : Ext s1 s2) : Ext s s2 := by
  obtain ⟨t, e⟩ := a.pre
  obtain ⟨u, e2⟩ := b.pre
  exact ⟨⟨t ++ u, by rw [e2, e, List.append_assoc]⟩, fun x o h => b.fz x o (a.fz x o h), b.hd.trans a.hd, fun x hx => (b.hx x (by rw [a.hd]; exact hx)).trans (a.hx x hx)⟩
theorem Ext.at_ {s s' : Sg} (e : Ext s s') {n : Nat} {a : Addr} (h : At s n a) : At s' n a := e.e0.at_ h
section
variable {K : PySem.W.Frag} {s s' s1 s2 : Sg} {x : IV} {xs : List IV} {v : V} {vs ys : List V} {p a : Addr} {o u : HO}
theorem RV.ext0 (e : Ext0 s s') (h : RV K s x v) : RV K s' x v := Rv.mono (fun _ _ h => e.at_ h) e.fz x v h
theorem RVs.ext0 (e : Ext0 s s') (h : RVs K s xs vs) : RVs K s' xs vs := Rvs.mono (fun _ _ h => e.at_ h) e.fz xs vs h
theorem RV.ext (e : Ext s s') (h : RV K s x v) : RV K s' x v := h.ext0 e.e0
theorem RVs.ext (e : Ext s s') (h : RVs K s xs vs) : RVs K s' xs vs := h.ext0 e.e0
theorem RE.ext0 {ρ : List (Option IV)} {σ : St} (e : Ext0 s s') (h : RE K s ρ σ) : RE K s' ρ σ :=
  ⟨h.len, fun i x hx => let ⟨v, h1, h2⟩ := h.at_ i x hx; ⟨v, h1, h2.ext0 e⟩⟩
theorem RE.ext {ρ : List (Option IV)} {σ : St} (e : Ext s s') (h : RE K s ρ σ) : RE K s' ρ σ := h.ext0 e.e0
theorem RO.ext {c : Cell} {ho : Option HO} (e : Ext0 s s') (h : RO K s c ho) : RO K s' c ho := by
  cases c with
  | lst xs =>
    obtain ⟨ys, h1, h2⟩ := h
    exact ⟨ys, h1, h2.ext0 e⟩
  | dic ks vs =>
    rcases h with ⟨kvs, h1, h2, h3⟩ | ⟨kvs, h1, h2, h3⟩
    · exact .inl ⟨kvs, h1, h2, h3.ext0 e⟩
    · exact .inr ⟨kvs, h1, h2, h3.ext0 e⟩
  | ins C ns vs =>
    obtain ⟨dx, ys, h1, h2, h3⟩ := h
    exact ⟨dx, ys, h1, h2, h3.ext0 e⟩
  | dead => exact h
theorem RO.some_ {c : Cell} {ho : Option HO} (h : RO K s c ho) : ∃ u, ho = some u := by
  cases c with
  | lst xs => obtain ⟨ys, h1, _⟩ := h; exact ⟨_, h1⟩
  | dic ks vs =>
    rcases h with ⟨kvs, h1, _⟩ | ⟨kvs, h1, _⟩
    · exact ⟨_, h1⟩
    · exact ⟨_, h1⟩
  | ins C ns vs => obtain ⟨dx, ys, h1, _⟩ := h; exact ⟨_, h1⟩
  | dead => exact h
theorem RS.some_ (r : RS K s) {n : Nat} (h : s.α[n]? = some a) : ∃ u, s.H a = some u := by
  have hn : n < s.h.length := by
    rw [← r.len]
    exact (List.getElem?_eq_some_iff.mp h).1
  exact (r.ob n a _ h (List.getElem?_eq_getElem hn)).some_
theorem RS.not_mem (r : RS K s) (hp : s.H p = none) : p ∉ s.α := fun hm => by
  obtain ⟨n, hn⟩ := List.getElem?_of_mem hm
  obtain ⟨u, e⟩ := r.some_ hn
  rw [hp] at e
  cases e
theorem RS.not_live (r : RS K s) (hp : s.H p = none) : ¬ live s p := fun ⟨n, c, h1, _⟩ => r.not_mem hp (List.mem_of_getElem? h1)
theorem Fz.some_ (h : Fz s a u) : ∃ o, s.H a = some o := by
  rcases h.2 with h | ⟨o, h⟩
  · exact ⟨_, h⟩
  · exact ⟨_, h⟩
theorem Fz.ne (h : Fz s a u) (hp : s.H p = none) : a ≠ p := fun e => by
  obtain ⟨o, q⟩ := h.some_
  rw [e, hp] at q
  cases q
/-! ### a new thing that never changes -/
abbrev Sg.put (s : Sg) (p : Addr) (o : HO) : Sg := ⟨s.α, s.h, upd s.H p o, s.hid⟩
theorem RS.hid_ne (r : RS K s) (hp : s.H p = none) (ha : a ∈ s.hid) : a ≠ p := fun e => by
  obtain ⟨_, o, q⟩ := r.hd a ha
  rw [e, hp] at q
  cases q
theorem Ext.put (r : RS K s) (hp : s.H p = none) : Ext s (s.put p o) := ⟨⟨[], (List.append_nil _).symm⟩, fun a u h => ⟨h.1, by
  have hne := h.ne hp
  rcases h.2 with q | ⟨ob, q⟩
  · exact .inl (by show upd s.H p o a = _; rw [upd_ne hne]; exact q)
  · exact .inr ⟨ob, by show upd s.H p o a = _; rw [upd_ne hne]; exact q⟩⟩, rfl, fun a ha => upd_ne (r.hid_ne hp ha)⟩
theorem Fz.put (r : RS K s) (hp : s.H p = none) : Fz (s.put p o) p o := ⟨⟨r.not_live hp, fun hm => r.hid_ne hp hm rfl⟩, .inl upd_same⟩
theorem RS.put (r : RS K s) (hp : s.H p = none) : RS K (s.put p o) := by
  refine ⟨r.len, r.nd, fun n a c h1 h2 => ?_, fun a ha => ⟨(r.hd a ha).1, by show ∃ o', upd s.H p o a = some o'; rw [upd_ne (r.hid_ne hp ha)]; exact (r.hd a ha).2⟩⟩
  have hne : a ≠ p := fun e => by
    rw [e] at h1
    exact r.not_mem hp (List.mem_of_getElem? h1)
  show RO K _ c (upd s.H p o a)
  rw [upd_ne hne]
  exact (r.ob n a c h1 h2).ext (Ext.put r hp).e0
/-! ### a new cell -/
abbrev Sg.new (s : Sg) (p : Addr) (o : HO) (c : Cell) : Sg := ⟨s.α ++ [p], s.h ++ [c], upd s.H p o, s.hid⟩
theorem get_append_one {α : Type} {l : List α} {x y : α} {n : Nat} (h : (l ++ [x])[n]? = some y) : l[n]? = some y ∨ (n = l.length ∧ x = y) := by
  by_cases hn : n < l.length
  · rw [List.getElem?_append_left hn] at h
    exact .inl h
  · rw [List.getElem?_append_right (by omega)] at h
    have e : n - l.length = 0 := by
      cases q : n - l.length with
      | zero => rfl
      | succ k =>
        rw [q] at h
        simp at h
    rw [e] at h
    exact .inr ⟨by omega, by simpa using h⟩
theorem live_new {c : Cell} (r : RS K s) (h : live (s.new p o c) a) : live s a ∨ a = p := by
  obtain ⟨n, q, h1, h2, h3⟩ := h
  rcases get_append_one h1 with h1 | ⟨_, h1⟩
  · rcases get_append_one h2 with h2 | ⟨h2, _⟩
    · exact .inl ⟨n, q, h1, h2, h3⟩
    · exact absurd (List.getElem?_eq_some_iff.mp h1).1 (by rw [h2, r.len]; exact Nat.lt_irrefl _)
  · exact .inr h1.symm
theorem Ext.new {c : Cell} (r : RS K s) (hp : s.H p = none) : Ext s (s.new p o c) := ⟨⟨[p], rfl⟩, fun a u h => by
  have hne := h.ne hp
  refine ⟨⟨fun z => (live_new r z).elim h.1.1 hne, h.1.2⟩, ?_⟩
  rcases h.2 with q | ⟨ob, q⟩
  · exact .inl (by show upd s.H p o a = _; rw [upd_ne hne]; exact q)
  · exact .inr ⟨ob, by show upd s.H p o a = _; rw [upd_ne hne]; exact q⟩, rfl, fun a ha => upd_ne (r.hid_ne hp ha)⟩
theorem RS.new {c : Cell} (r : RS K s) (hp : s.H p = none) (hc : RO K (s.new p o c) c (some o)) : RS K (s.new p o c) := by
  refine ⟨by simp [r.len], ?_, fun n a c' h1 h2 => ?_, fun a ha => ⟨fun hm => ?_, by show ∃ o', upd s.H p o a = some o'; rw [upd_ne (r.hid_ne hp ha)]; exact (r.hd a ha).2⟩⟩
  · show (s.α ++ [p]).Nodup
    rw [List.nodup_append]
    refine ⟨r.nd, by simp, fun x hx y hy e => ?_⟩
    have ey : y = p := by simpa using hy
    rw [e, ey] at hx
    exact r.not_mem hp hx
  · rcases get_append_one h1 with h1 | ⟨hn, h1⟩
    · have hl := (List.getElem?_eq_some_iff.mp h1).1
      rcases get_append_one h2 with h2 | ⟨h2, _⟩
      · have hne : a ≠ p := fun e => by
          rw [e] at h1
          exact r.not_mem hp (List.mem_of_getElem? h1)
        show RO K _ c' (upd s.H p o a)
        rw [upd_ne hne]
        exact (r.ob n a c' h1 h2).ext (Ext.new r hp).e0
      · rw [r.len] at hl
        omega
    · rcases get_append_one h2 with h2 | ⟨_, h2⟩
      · have := (List.getElem?_eq_some_iff.mp h2).1
        rw [hn, r.len] at this
        omega
      · rw [← h1, ← h2]
        show RO K _ c (upd s.H p o p)
        rw [upd_same]
        exact hc
  · rcases List.mem_append.mp hm with hm | hm
    · exact (r.hd a ha).1 hm
    · exact r.hid_ne hp ha (by simpa using hm)
theorem At.new {c : Cell} (r : RS K s) : At (s.new p o c) s.h.length p := by
  show (s.α ++ [p])[s.h.length]? = some p
  rw [← r.len]
  simp
/-! ### a cell is written -/
abbrev Sg.set (s : Sg) (n : Nat) (a : Addr) (o : HO) (c : Cell) : Sg := ⟨s.α, s.h.set n c, upd s.H a o, s.hid⟩
theorem RS.hid_at (r : RS K s) {n : Nat} {b : Addr} (h1 : s.α[n]? = some a) (hb : b ∈ s.hid) : b ≠ a := fun e => (r.hd b hb).1 (by rw [e]; exact List.mem_of_getElem? h1)
theorem live_of {n : Nat} {c : Cell} (h1 : s.α[n]? = some a) (h2 : s.h[n]? = some c) (hc : c ≠ .dead) : live s a := ⟨n, c, h1, h2, hc⟩
theorem live_set {n : Nat} {c0 c : Cell} {b : Addr} (h1 : s.α[n]? = some a) (h2 : s.h[n]? = some c0) (hc : c0 ≠ .dead) (h : live (s.set n a o c) b) : live s b := by
  obtain ⟨m, q, e1, e2, e3⟩ := h
  by_cases hm : m = n
  · have e1' : s.α[m]? = some b := e1
    rw [hm, h1] at e1'
    cases e1'
    exact ⟨n, c0, h1, h2, hc⟩
  · have e2' : (s.h.set n c)[m]? = some q := e2
    rw [List.getElem?_set_ne (Ne.symm hm)] at e2'
    exact ⟨m, q, e1, e2', e3⟩
theorem Ext.set {n : Nat} {c0 c : Cell} (r : RS K s) (h1 : s.α[n]? = some a) (h2 : s.h[n]? = some c0) (hc : c0 ≠ .dead) : Ext s (s.set n a o c) := ⟨⟨[], (List.append_nil _).symm⟩, fun b u h => by
  have hne : b ≠ a := fun e => h.1.1 (by rw [e]; exact live_of h1 h2 hc)
  refine ⟨⟨fun z => h.1.1 (live_set h1 h2 hc z), h.1.2⟩, ?_⟩
  rcases h.2 with q | ⟨ob, q⟩
  · exact .inl (by show upd s.H a o b = _; rw [upd_ne hne]; exact q)
  · exact .inr ⟨ob, by show upd s.H a o b = _; rw [upd_ne hne]; exact q⟩, rfl, fun b hb => upd_ne (r.hid_at h1 hb)⟩
theorem RS.set {n : Nat} {c0 c : Cell} (r : RS K s) (h1 : s.α[n]? = some a) (h2 : s.h[n]? = some c0) (hc : c0 ≠ .dead) (hr : RO K (s.set n a o c) c (some o)) : RS K (s.set n a o c) := by
  refine ⟨by simp [r.len], r.nd, fun m b c' e1 e2 => ?_, fun b hb => ⟨(r.hd b hb).1, by show ∃ o', upd s.H a o b = some o'; rw [upd_ne (r.hid_at h1 hb)]; exact (r.hd b hb).2⟩⟩
  have hn : n < s.h.length := (List.getElem?_eq_some_iff.mp h2).1
  by_cases hm : m = n
  · have e1' : s.α[m]? = some b := e1
    rw [hm, h1] at e1'
    cases e1'
    have e2' : (s.h.set n c)[m]? = some c' := e2
    rw [hm, List.getElem?_set_self hn] at e2'
    cases e2'
    show RO K _ c (upd s.H a o a)
    rw [upd_same]
    exact hr
  · have e2' : (s.h.set n c)[m]? = some c' := e2
    rw [List.getElem?_set_ne (Ne.symm hm)] at e2'
    have hne : b ≠ a := fun e => by
      have e1' : s.α[m]? = some b := e1
      rw [e] at e1'
      obtain ⟨l1, q1⟩ := List.getElem?_eq_some_iff.mp e1'
      obtain ⟨l2, q2⟩ := List.getElem?_eq_some_iff.mp h1
      exact hm ((List.getElem_inj r.nd).mp (q1.trans q2.symm))
    show RO K _ c' (upd s.H a o b)
    rw [upd_ne hne]
    exact (r.ob m b c' e1 e2').ext (Ext.set r h1 h2 hc).e0
/-! ### a cell comes to rest: its thing is a value from then on -/
abbrev Sg.rest (s : Sg) (n : Nat) : Sg := ⟨s.α, s.h.set n .dead, s.H, s.hid⟩
theorem live_rest {n : Nat} {b : Addr} (h : live (s.rest n) b) : live s b := by
  obtain ⟨m, q, e1, e2, e3⟩ := h
  by_cases hm : m = n
  · have e2' : (s.h.set n .dead)[m]? = some q := e2
    rw [hm] at e2'
    by_cases hl : n < s.h.length
    · rw [List.getElem?_set_self hl] at e2'
      exact absurd (Option.some.inj e2').symm e3
    · rw [List.getElem?_eq_none (by simpa using hl)] at e2'
      cases e2'
  · have e2' : (s.h.set n .dead)[m]? = some q := e2
    rw [List.getElem?_set_ne (Ne.symm hm)] at e2'
    exact ⟨m, q, e1, e2', e3⟩
theorem Ext.rest {n : Nat} : Ext s (s.rest n) := ⟨⟨[], (List.append_nil _).symm⟩, fun b u h => ⟨⟨fun z => h.1.1 (live_rest z), h.1.2⟩, h.2⟩, rfl, fun _ _ => rfl⟩
theorem RS.rest {n : Nat} (r : RS K s) : RS K (s.rest n) := by
  refine ⟨by simp [r.len], r.nd, fun m b c' e1 e2 => ?_, r.hd⟩
  by_cases hm : m = n
  · have e2' : (s.h.set n .dead)[m]? = some c' := e2
    rw [hm] at e2'
    by_cases hl : n < s.h.length
    · rw [List.getElem?_set_self hl] at e2'
      cases e2'
      exact r.some_ e1
    · rw [List.getElem?_eq_none (by simpa using hl)] at e2'
      cases e2'
  · have e2' : (s.h.set n .dead)[m]? = some c' := e2
    rw [List.getElem?_set_ne (Ne.symm hm)] at e2'
    exact (r.ob m b c' e1 e2').ext Ext.rest.e0
theorem Fz.rest {n : Nat} {c : Cell} (r : RS K s) (h1 : s.α[n]? = some a) (h2 : s.h[n]? = some c) (hu : s.H a = some u) : Fz (s.rest n) a u := by
  refine ⟨⟨fun ⟨m, q, e1, e2, e3⟩ => ?_, fun hm => (r.hd a hm).1 (List.mem_of_getElem? h1)⟩, .inl hu⟩
  have hn : n < s.h.length := (List.getElem?_eq_some_iff.mp h2).1
  have hm : m = n := by
    have e1' : s.α[m]? = some a := e1
    obtain ⟨l1, q1⟩ := List.getElem?_eq_some_iff.mp e1'
    obtain ⟨l2, q2⟩ := List.getElem?_eq_some_iff.mp h1
    exact (List.getElem_inj r.nd).mp (q1.trans q2.symm)
  have e2' : (s.h.set n .dead)[m]? = some q := e2
  rw [hm, List.getElem?_set_self hn] at e2'
  exact e3 (Option.some.inj e2').symm
/-! ### a list in the making, hidden -/
abbrev Sg.hide (s : Sg) (p : Addr) (o : HO) : Sg := ⟨s.α, s.h, upd s.H p o, p :: s.hid⟩
theorem Ext0.hide (hp : s.H p = none) : Ext0 s (s.hide p o) := ⟨⟨[], (List.append_nil _).symm⟩, fun a u h => by
  have hne := h.ne hp
  refine ⟨⟨h.1.1, fun hm => (List.mem_cons.mp hm).elim hne h.1.2⟩, ?_⟩
  rcases h.2 with q | ⟨ob, q⟩
  · exact .inl (by show upd s.H p o a = _; rw [upd_ne hne]; exact q)
  · exact .inr ⟨ob, by show upd s.H p o a = _; rw [upd_ne hne]; exact q⟩⟩
theorem RS.hide (r : RS K s) (hp : s.H p = none) : RS K (s.hide p o) := by
  refine ⟨r.len, r.nd, fun n a c h1 h2 => ?_, fun a ha => ?_⟩
  · have hne : a ≠ p := fun e => by
      rw [e] at h1
      exact r.not_mem hp (List.mem_of_getElem? h1)
    show RO K _ c (upd s.H p o a)
    rw [upd_ne hne]
    exact (r.ob n a c h1 h2).ext (Ext0.hide hp)
  · rcases List.mem_cons.mp ha with e | ha
    · subst e
      exact ⟨r.not_mem hp, o, upd_same⟩
    · refine ⟨(r.hd a ha).1, ?_⟩
      show ∃ o', upd s.H p o a = some o'
      rw [upd_ne (r.hid_ne hp ha)]
      exact (r.hd a ha).2
/-- the hidden list grows -/
abbrev Sg.grow (s : Sg) (p : Addr) (o : HO) : Sg := ⟨s.α, s.h, upd s.H p o, s.hid⟩
theorem Ext0.grow (hp : p ∈ s.hid) : Ext0 s (s.grow p o) := ⟨⟨[], (List.append_nil _).symm⟩, fun a u h => by
  have hne : a ≠ p := fun e => h.1.2 (by rw [e]; exact hp)
  refine ⟨h.1, ?_⟩
  rcases h.2 with q | ⟨ob, q⟩
  · exact .inl (by show upd s.H p o a = _; rw [upd_ne hne]; exact q)
  · exact .inr ⟨ob, by show upd s.H p o a = _; rw [upd_ne hne]; exact q⟩⟩
theorem RS.grow (r : RS K s) (hp : p ∈ s.hid) : RS K (s.grow p o) := by
  refine ⟨r.len, r.nd, fun n a c h1 h2 => ?_, fun a ha => ⟨(r.hd a ha).1, ?_⟩⟩
  · have hne : a ≠ p := fun e => (r.hd p hp).1 (by rw [← e]; exact List.mem_of_getElem? h1)
    show RO K _ c (upd s.H p o a)
    rw [upd_ne hne]
    exact (r.ob n a c h1 h2).ext (Ext0.grow hp)
  · by_cases e : a = p
    · subst e
      exact ⟨o, upd_same⟩
    · show ∃ o', upd s.H p o a = some o'
      rw [upd_ne e]
      exact (r.hd a ha).2
/-- it is shown -/
abbrev Sg.unhide (s : Sg) (l : List Addr) : Sg := ⟨s.α, s.h, s.H, l⟩
theorem Ext0.unhide {l : List Addr} (hl : ∀ a ∈ l, a ∈ s.hid) : Ext0 s (s.unhide l) := ⟨⟨[], (List.append_nil _).symm⟩, fun a u h => ⟨⟨h.1.1, fun hm => h.1.2 (hl a hm)⟩, h.2⟩⟩
theorem RS.unhide {l : List Addr} (r : RS K s) (hl : ∀ a ∈ l, a ∈ s.hid) : RS K (s.unhide l) :=
  ⟨r.len, r.nd, fun n a c h1 h2 => (r.ob n a c h1 h2).ext (Ext0.unhide hl), fun a ha => r.hd a (hl a ha)⟩
end
end Mp

set_option maxHeartbeats 4000000
/-! Mp1: meanings of expressions, argument lists, statements, defs; their readings; calls. -/
namespace Mp
open PySem PySem.Spec PyProof.Rows L2

def Res.bind (r : Res) (f : IV → List Cell → Res) : Res := match r with
  | .ok x h => f x h
  | .exc C v h => .exc C v h
  | .stuck => .stuck
abbrev Env_ := List (Option IV)
/-- an expression's meaning -/
abbrev EM := Env_ → List Cell → Res
/-- an argument list's -/
inductive ResL where
  | ok (r : List IV) (h : List Cell)
  | exc (C : Str) (v : IV) (h : List Cell)
  | stuck
abbrev AM := Env_ → List Cell → ResL
def Res.bindL (r : Res) (f : IV → List Cell → ResL) : ResL := match r with
  | .ok x h => f x h
  | .exc C v h => .exc C v h
  | .stuck => .stuck
def ResL.bind (r : ResL) (f : List IV → List Cell → Res) : Res := match r with
  | .ok x h => f x h
  | .exc C v h => .exc C v h
  | .stuck => .stuck
def ResL.bindL (r : ResL) (f : List IV → List Cell → ResL) : ResL := match r with
  | .ok x h => f x h
  | .exc C v h => .exc C v h
  | .stuck => .stuck
/-- a statement's end -/
inductive ResS where
  | nx (ρ : Env_) (h : List Cell)
  | bk (ρ : Env_) (h : List Cell)
  | ct (ρ : Env_) (h : List Cell)
  | rt (r : IV) (h : List Cell)
  | exc (C : Str) (v : IV) (ρ : Env_) (h : List Cell)
  | stuck
abbrev SM := Env_ → List Cell → ResS
def Res.bindS (r : Res) (ρ : Env_) (f : IV → List Cell → ResS) : ResS := match r with
  | .ok x h => f x h
  | .exc C v h => .exc C v ρ h
  | .stuck => .stuck
def ResL.bindS (r : ResL) (ρ : Env_) (f : List IV → List Cell → ResS) : ResS := match r with
  | .ok x h => f x h
  | .exc C v h => .exc C v ρ h
  | .stuck => .stuck
def ResS.bind (r : ResS) (f : Env_ → List Cell → ResS) : ResS := match r with
  | .nx ρ h => f ρ h
  | r => r
/-- a def's meaning -/
abbrev FM := List IV → List Cell → Res

/-! ### what is wanted behind -/
section
variable (K : PySem.W.Frag)
/-- an error lies so in a state -/
def ErrAt (s : Sg) (C : Str) (x : IV) (E : XK) : Prop := ∀ d y, Fz s d (.xd [(("value" : Str), y)]) → RV K s x y → E (.ref (He.ga K C)) (some d) s.H
def After (E : XK) (s : Sg) (r : Res) (Q : VK) : Prop := match r with
  | .ok x h => ∀ s' v, Ext s s' → RS K s' → s'.h = h → RV K s' x v → Q v s'.H
  | .exc C x h => ∀ s', Ext s s' → RS K s' → s'.h = h → ErrAt K s' C x E
  | .stuck => False
def AfterL (E : XK) (s : Sg) (r : ResL) (Q : List V → Hp → Prop) : Prop := match r with
  | .ok x h => ∀ s' v, Ext s s' → RS K s' → s'.h = h → RVs K s' x v → Q v s'.H
  | .exc C x h => ∀ s', Ext s s' → RS K s' → s'.h = h → ErrAt K s' C x E
  | .stuck => False
def AfterS (W : WX) (s : Sg) (r : ResS) (D : Ends) : Prop := match r with
  | .nx ρ h => ∀ s' σ', Ext s s' → RS K s' → s'.h = h → RE K s' ρ σ' → D.nx σ' s'.H
  | .bk ρ h => ∀ s' σ', Ext s s' → RS K s' → s'.h = h → RE K s' ρ σ' → D.bk σ' s'.H
  | .ct ρ h => ∀ s' σ', Ext s s' → RS K s' → s'.h = h → RE K s' ρ σ' → D.ct σ' s'.H
  | .rt x h => ∀ s' v, Ext s s' → RS K s' → s'.h = h → RV K s' x v → D.rt v s'.H
  | .exc C x ρ h => ∀ s' σ', Ext s s' → RS K s' → s'.h = h → RE K s' ρ σ' → ErrAt K s' C x (fun c d H => W c d σ' H)
  | .stuck => False
/-- the readings -/
def T (W : WX) (m : EM) : TE := fun σ H Q => ∃ (s : Sg) (ρ : Env_), s.H = H ∧ RS K s ∧ RE K s ρ σ ∧ After K (fun c d H => W c d σ H) s (m ρ s.h) Q
def TA_ (W : WX) (m : AM) : TA := fun σ H Q => ∃ (s : Sg) (ρ : Env_), s.H = H ∧ RS K s ∧ RE K s ρ σ ∧ AfterL K (fun c d H => W c d σ H) s (m ρ s.h) Q
def TS_ (W : WX) (m : SM) : TS := fun D σ H => ∃ (s : Sg) (ρ : Env_), s.H = H ∧ RS K s ∧ RE K s ρ σ ∧ AfterS K W s (m ρ s.h) D
def spF (F : FM) : Sp := fun vs H Q E => ∃ (s : Sg) (xs : List IV), s.H = H ∧ RS K s ∧ RVs K s xs vs ∧ After K E s (F xs s.h) Q
end
section
variable {K : PySem.W.Frag} {s s1 : Sg}
theorem ErrAt.imp {C : Str} {x : IV} {E E' : XK} (h : ErrAt K s C x E) (i : ∀ c d H, E c d H → E' c d H) : ErrAt K s C x E' := fun d y h1 h2 => i _ _ _ (h d y h1 h2)
theorem After.ext {E : XK} {r : Res} {Q : VK} (e : Ext s s1) (h : After K E s r Q) : After K E s1 r Q := by
  cases r with
  | ok x h' => exact fun s' v e2 r2 eh rv => h s' v (e.trans e2) r2 eh rv
  | exc C x h' => exact fun s' e2 r2 eh => h s' (e.trans e2) r2 eh
  | stuck => exact h
theorem After.imp {E : XK} {r : Res} {Q Q' : VK} (h : After K E s r Q) (i : ∀ v H, Q v H → Q' v H) : After K E s r Q' := by
  cases r with
  | ok x h' => exact fun s' v e2 r2 eh rv => i _ _ (h s' v e2 r2 eh rv)
  | exc C x h' => exact h
  | stuck => exact h
theorem AfterL.ext {E : XK} {r : ResL} {Q : List V → Hp → Prop} (e : Ext s s1) (h : AfterL K E s r Q) : AfterL K E s1 r Q := by
  cases r with
  | ok x h' => exact fun s' v e2 r2 eh rv => h s' v (e.trans e2) r2 eh rv
  | exc C x h' => exact fun s' e2 r2 eh => h s' (e.trans e2) r2 eh
  | stuck => exact h
theorem AfterS.ext {W : WX} {r : ResS} {D : Ends} (e : Ext s s1) (h : AfterS K W s r D) : AfterS K W s1 r D := by
  cases r with
  | nx ρ h' => exact fun s' σ' e2 r2 eh re => h s' σ' (e.trans e2) r2 eh re
  | bk ρ h' => exact fun s' σ' e2 r2 eh re => h s' σ' (e.trans e2) r2 eh re
  | ct ρ h' => exact fun s' σ' e2 r2 eh re => h s' σ' (e.trans e2) r2 eh re
  | rt x h' => exact fun s' v e2 r2 eh rv => h s' v (e.trans e2) r2 eh rv
  | exc C x ρ h' => exact fun s' σ' e2 r2 eh re => h s' σ' (e.trans e2) r2 eh re
  | stuck => exact h
variable {W : WX} {σ : L2.St} {ρ : Env_}
/-- a part, then what follows, from a later state -/
structure Nxt (K : PySem.W.Frag) (s : Sg) (ρ : Env_) (σ : L2.St) (x : IV) (s1 : Sg) (v : V) : Prop where
  ext : Ext s s1
  rs : RS K s1
  re : RE K s1 ρ σ
  rv : RV K s1 x v
theorem T.of {m : EM} {Q : VK} (rs : RS K s) (re : RE K s ρ σ) (h : After K (fun c d H => W c d σ H) s (m ρ s.h) Q) : T K W m σ s.H Q := ⟨s, ρ, rfl, rs, re, h⟩
/-- the part's reading, from what is wanted of the whole -/
theorem T.bind {m : EM} {f : IV → List Cell → Res} {Q : VK} {R : V → Hp → Prop} (rs : RS K s) (re : RE K s ρ σ)
    (h : After K (fun c d H => W c d σ H) s ((m ρ s.h).bind f) Q)
    (k : ∀ x s1 v, Nxt K s ρ σ x s1 v → After K (fun c d H => W c d σ H) s1 (f x s1.h) Q → R v s1.H) : T K W m σ s.H R := by
  refine .of rs re ?_
  cases e : m ρ s.h with
  | ok x h1 =>
    rw [e] at h
    intro s' v e2 r2 eh rv
    exact k x s' v ⟨e2, r2, re.ext e2, rv⟩ (by rw [eh]; exact After.ext e2 h)
  | exc C x h1 =>
    rw [e] at h
    exact h
  | stuck =>
    rw [e] at h
    exact h
theorem T.bindL {m : EM} {f : IV → List Cell → ResL} {Q : List V → Hp → Prop} {R : V → Hp → Prop} (rs : RS K s) (re : RE K s ρ σ)
    (h : AfterL K (fun c d H => W c d σ H) s ((m ρ s.h).bindL f) Q)
    (k : ∀ x s1 v, Nxt K s ρ σ x s1 v → AfterL K (fun c d H => W c d σ H) s1 (f x s1.h) Q → R v s1.H) : T K W m σ s.H R := by
  refine .of rs re ?_
  cases e : m ρ s.h with
  | ok x h1 =>
    rw [e] at h
    intro s' v e2 r2 eh rv
    exact k x s' v ⟨e2, r2, re.ext e2, rv⟩ (by rw [eh]; exact AfterL.ext e2 h)
  | exc C x h1 =>
    rw [e] at h
    exact h
  | stuck =>
    rw [e] at h
    exact h
theorem T.bindS {m : EM} {f : IV → List Cell → ResS} {D : Ends} {R : V → Hp → Prop} (rs : RS K s) (re : RE K s ρ σ)
    (h : AfterS K W s ((m ρ s.h).bindS ρ f) D)
    (k : ∀ x s1 v, Nxt K s ρ σ x s1 v → AfterS K W s1 (f x s1.h) D → R v s1.H) : T K W m σ s.H R := by
  refine .of rs re ?_
  cases e : m ρ s.h with
  | ok x h1 =>
    rw [e] at h
    intro s' v e2 r2 eh rv
    exact k x s' v ⟨e2, r2, re.ext e2, rv⟩ (by rw [eh]; exact AfterS.ext e2 h)
  | exc C x h1 =>
    rw [e] at h
    exact fun s' e2 r2 eh => h s' σ e2 r2 eh (re.ext e2)
  | stuck =>
    rw [e] at h
    exact h
structure NxtL (K : PySem.W.Frag) (s : Sg) (ρ : Env_) (σ : L2.St) (xs : List IV) (s1 : Sg) (vs : List V) : Prop where
  ext : Ext s s1
  rs : RS K s1
  re : RE K s1 ρ σ
  rv : RVs K s1 xs vs
theorem TA_.of {m : AM} {Q : List V → Hp → Prop} (rs : RS K s) (re : RE K s ρ σ) (h : AfterL K (fun c d H => W c d σ H) s (m ρ s.h) Q) : TA_ K W m σ s.H Q := ⟨s, ρ, rfl, rs, re, h⟩
theorem TA_.bind {m : AM} {f : List IV → List Cell → Res} {Q : VK} {R : List V → Hp → Prop} (rs : RS K s) (re : RE K s ρ σ)
    (h : After K (fun c d H => W c d σ H) s ((m ρ s.h).bind f) Q)
    (k : ∀ xs s1 vs, NxtL K s ρ σ xs s1 vs → After K (fun c d H => W c d σ H) s1 (f xs s1.h) Q → R vs s1.H) : TA_ K W m σ s.H R := by
  refine .of rs re ?_
  cases e : m ρ s.h with
  | ok x h1 =>
    rw [e] at h
    intro s' v e2 r2 eh rv
    exact k x s' v ⟨e2, r2, re.ext e2, rv⟩ (by rw [eh]; exact After.ext e2 h)
  | exc C x h1 =>
    rw [e] at h
    exact h
  | stuck =>
    rw [e] at h
    exact h
theorem TA_.bindL {m : AM} {f : List IV → List Cell → ResL} {Q : List V → Hp → Prop} {R : List V → Hp → Prop} (rs : RS K s) (re : RE K s ρ σ)
    (h : AfterL K (fun c d H => W c d σ H) s ((m ρ s.h).bindL f) Q)
    (k : ∀ xs s1 vs, NxtL K s ρ σ xs s1 vs → AfterL K (fun c d H => W c d σ H) s1 (f xs s1.h) Q → R vs s1.H) : TA_ K W m σ s.H R := by
  refine .of rs re ?_
  cases e : m ρ s.h with
  | ok x h1 =>
    rw [e] at h
    intro s' v e2 r2 eh rv
    exact k x s' v ⟨e2, r2, re.ext e2, rv⟩ (by rw [eh]; exact AfterL.ext e2 h)
  | exc C x h1 =>
    rw [e] at h
    exact h
  | stuck =>
    rw [e] at h
    exact h
theorem TS_.of {m : SM} {D : Ends} (rs : RS K s) (re : RE K s ρ σ) (h : AfterS K W s (m ρ s.h) D) : TS_ K W m D σ s.H := ⟨s, ρ, rfl, rs, re, h⟩
/-- a value at hand -/
theorem After.ret {E : XK} {x : IV} {v : V} {Q : VK} (h : After K E s (.ok x s.h) Q) (rs : RS K s) (rv : RV K s x v) : Q v s.H := h s v (Ext.refl s) rs rfl rv
/-- a value made new at p -/
theorem After.put {E : XK} {x : IV} {p : Addr} {o : HO} {v : V} {Q : VK} (h : After K E s (.ok x s.h) Q) (rs : RS K s) (hp : s.H p = none) (rv : RV K (s.put p o) x v) : Q v (upd s.H p o) :=
  h (s.put p o) v (Ext.put rs hp) (rs.put hp) rfl rv
end
end Mp
namespace L2
open PySem PySem.Spec PyProof.Rows
section
variable {X : Cx} {e : Expr} {es : List Expr} {st : Stmt} {sts : List Stmt}
theorem PE.imp {t t' : TE} (h : PE X e t) (i : ∀ σ H Q, t' σ H Q → t σ H Q) : PE X e t' := ⟨fun pins s σ H Q I q => h.run pins s σ H Q I (i _ _ _ q)⟩
theorem PT.imp {t t' : TT} (h : PT X e t) (i : ∀ σ H Q, t' σ H Q → t σ H Q) : PT X e t' := ⟨fun pins s σ H Q I q => h.run pins s σ H Q I (i _ _ _ q)⟩
theorem PA.imp {t t' : TA} (h : PA X es t) (i : ∀ σ H Q, t' σ H Q → t σ H Q) : PA X es t' := ⟨fun pos pins s σ H Q I q => h.run pos pins s σ H Q I (i _ _ _ q)⟩
theorem PS.imp {t t' : TS} (h : PS X st t) (i : ∀ D σ H, t' D σ H → t D σ H) : PS X st t' := ⟨fun pins s σ H D I q => h.run pins s σ H D I (i _ _ _ q)⟩
theorem PSs.imp {t t' : TS} (h : PSs X sts t) (i : ∀ D σ H, t' D σ H → t D σ H) : PSs X sts t' := ⟨fun pins s σ H D I q => h.run pins s σ H D I (i _ _ _ q)⟩
end

end L2
namespace Mp
open PySem PySem.Spec PyProof.Rows L2
/-! ### argument lists -/
def aNil : AM := fun _ h => .ok [] h
def aCons (m : EM) (a : AM) : AM := fun ρ h => (m ρ h).bindL fun x h1 => (a ρ h1).bindL fun xs h2 => .ok (x :: xs) h2
section
variable {X : Cx} {W : WX} {e : Expr} {es : List Expr} {m : EM} {a : AM}
theorem sa_nil : PA X [] (TA_ X.K W aNil) := pa_nil.imp fun σ H Q ⟨s, ρ, eh, rs, re, h⟩ => by
  subst eh
  exact h s [] (Ext.refl s) rs rfl (by simp only [Rvs])
theorem sa_cons (he : PE X e (T X.K W m)) (hr : PA X es (TA_ X.K W a)) (hs : starEach (e :: es) X.env = (false, eval e X.env) :: starEach es X.env := by rfl) : PA X (e :: es) (TA_ X.K W (aCons m a)) :=
  (pa_cons he hr hs).imp fun σ H Q ⟨s, ρ, eh, rs, re, h⟩ => by
    subst eh
    refine T.bindL rs re h fun x s1 v n1 h1 => ?_
    refine TA_.bindL n1.rs n1.re h1 fun xs s2 vs n2 h2 => ?_
    refine h2 s2 (v :: vs) (Ext.refl _) n2.rs rfl ?_
    simp only [Rvs]
    exact ⟨v, vs, rfl, n1.rv.ext n2.ext, n2.rv⟩
end

/-! ### calls of defs: the guards of repr are known to be none -/
structure RG (k : Nat) (A : Around) : Prop where
  room : Room k A
  gs : A.guards = some []
theorem RG.mono {j k : Nat} {A : Around} (r : RG k A) (h : j ≤ k) : RG j A := ⟨r.room.mono h, r.gs⟩
theorem RG.deeper {k : Nat} {A : Around} (r : RG (k + 1) A) (env : Env) : RG k (A.deeper env) := ⟨r.room.deeper env, r.gs⟩
structure FnG (P : Program) (w : World) (K : PySem.W.Frag) (mg : Str → Option Value) (base : Heap) (k : Nat) (f : Addr) (fd : FuncData) (ps : List Str) (sp : Sp) : Prop where
  len : ∀ vs H Q E, sp vs H Q E → vs.length = ps.length
  run : ∀ (A : Around) (outer : List Env) (s : Shared) (H : Hp) (args : Args) (us : List Value) (vs : List V) (Q : VK) (E : XK), RG k A → Env0 P w K mg base A outer s H → BindsTo s fd args (ps.zip us) → Vals vs us →
    sp vs H Q E → codeAny (model P w) A (.call (.ref f) args) (CR (L2.CX P w) outer P w H s Q E) s
section
variable {P : Program} {w : World} {K : PySem.W.Frag} {mg : Str → Option Value} {base : Heap}
theorem FnG.mono {j k : Nat} {f : Addr} {fd : FuncData} {ps : List Str} {sp : Sp} (F : FnG P w K mg base j f fd ps sp) (h : j ≤ k) : FnG P w K mg base k f fd ps sp :=
  ⟨F.len, fun A outer s H args us vs Q E hr => F.run A outer s H args us vs Q E (hr.mono h)⟩
/-- a def of the text by its body -/
theorem fnG_of {k : Nat} {f : Addr} {name qual : Str} {params : Arguments} {body : List Stmt} {scope : Scope} {dV kV doc pm cdv ct oc : Value} {an od : Option Addr} {osl : Array (Option Value)} {N ps : List Str} {sp : Sp}
    (lk : K.lookup f = some ⟨oc, od, .func (PySem.W.fnOf name qual params body scope dV kV doc pm an cdv ct), osl⟩) (hc : PySem.W.codeIn K cdv qual = true) (S : FnScope N ps scope)
    (len : ∀ vs H Q E, sp vs H Q E → vs.length = ps.length)
    (hb : ∀ (A : Around) (outer : List Env) (s : Shared) (H : Hp) (vs : List V) (Q : VK) (E : XK), RG k (A.deeper (envOfC qual scope s.heap.objs.size f cdv)) → sp vs H Q E →
      ∃ t, PSs (cxOf (L2.CX P w) P w K mg base N qual scope f cdv A outer s H E) body t ∧ t { nx := fun _ H' => Q .non H', rt := Q } (L2.start N vs) H) :
    FnG P w K mg base (k + 1) f (PySem.W.fnOf name qual params body scope dV kV doc pm an cdv ct) ps sp := by
  refine ⟨len, fun A outer sh H args us vs Q E room e0 bnd rel hsp => ?_⟩
  have hlen := len _ _ _ _ hsp
  have inK : K.In sh.heap := e0.mod.kin.keeps fun b o e => (e0.bs b o e).1
  have nolim : sh.heap.NoLimit := e0.mod.nolimit.keeps fun b o e => (e0.bs b o e).1
  have kinds : ∀ y ∈ ps.zip us, scope.names.lookup y.1 = some .local ∨ (scope.names.lookup y.1 = some .cell ∧ ((cellsFrom (sh.heap.objs.size + 1) scope.names []).lookup y.1).isSome = true) := by
    rintro ⟨nm, vl⟩ hy
    exact (S.par nm (List.of_mem_zip hy).1).imp id fun q => ⟨q, PySem.W.cellsFrom_some _ _ _ (.inl q)⟩
  refine codeAny_call_function room.room.depth (inK _ _ lk) rfl S.co S.gen rfl (PySem.W.codeRec_of inK hc) (bnd _ _ _ _ ?_)
  refine wpAny_newFunctionEnv_cells S.kind kinds fun env henv sh1 x => ?_
  subst henv
  refine ⟨nolim.keeps x.toInCall.keep, codeAny_func ?_⟩
  obtain ⟨t, pt, qt⟩ := hb A outer sh H vs Q E (room.deeper _) hsp
  have J : Inv (cxOf (L2.CX P w) P w K mg base N qual scope f cdv A outer sh H E) [] (L2.start N vs) H sh1 := inv_start S room.room.hd e0 hlen rel x
  refine wpAny_mono (pt.run [] sh1 (L2.start N vs) H _ J qt) (fun fl sh' q => ?_) fun e sh' q => q
  cases fl with
  | ret u => exact let ⟨v, σ', H', J', rv, z⟩ := q; ⟨v, H', J'.os, J'.bare, J'.base, J'.hok, rv, z⟩
  | next => exact let ⟨σ', H', J', z⟩ := q; ⟨V.non, H', J'.os, J'.bare, J'.base, J'.hok, rfl, z⟩
  | brk => exact let ⟨_, _, _, z⟩ := q; False.elim z
  | cont => exact let ⟨_, _, _, z⟩ := q; False.elim z
end
section
variable {X : Cx} {k : Nat} {f C : Addr} {fd : FuncData} {ps : List Str} {sp : Sp} {dvs : List V} {ds : List Value} {W : WX} {x m : Str} {p pos apos : Pos} {e o : Expr} {es : List Expr}
theorem run_fnG {pins : List (Addr × Obj)} {σ : L2.St} {H : Hp} {s : Shared} {Q : VK} {us : List Value} {vs : List V} (F : FnG X.prog X.w X.K X.mg X.base k f fd ps sp) (hr : RG k X.A) (hb : Binds X.K fd ps ds) (hd : Vals dvs ds) (tk : Takes X W)
    (I : Inv X pins σ H s) (rel : Vals vs us) (h : sp (vs ++ dvs) H Q (fun c d H' => W c d σ H')) : wpAny (model X.prog X.w) X.A (call (.ref f) us) (EP X pins σ Q) X.xe s := by
  have rel2 : Vals (vs ++ dvs) (us ++ ds) := rel.append hd
  have hlen : (us ++ ds).length = ps.length := rel2.length.symm.trans (F.len _ _ _ _ h)
  refine wpAny_call (codeAny_mono (F.run X.A X.stack s H ⟨us, []⟩ (us ++ ds) (vs ++ dvs) Q _ hr I.env0 (hb s us I.kIn hlen) rel2 h) fun r sh hq => ?_)
  rcases r with ex | (_ | _ | _ | u)
  · exact tk ex sh (XE.of_call I (fun _ _ _ z => z) hq)
  · exact False.elim hq
  · exact False.elim hq
  · exact False.elim hq
  · exact I.after hq
/-- f(e, ..), its reading over the promise -/
def tCallG (sp : Sp) (dvs : List V) (W : WX) (t : TA) : TE := fun σ H Q => t σ H fun vs H1 => sp (vs ++ dvs) H1 Q (fun c d H' => W c d σ H')
theorem pe_callG {t : TA} (F : FnG X.prog X.w X.K X.mg X.base k f fd ps sp) (hr : RG k X.A) (hg : Gl X x) (hm : X.mg x = some (.ref f)) (hk : PySem.W.keepIn X.K (.ref f) = true) (hb : Binds X.K fd ps ds) (hd : Vals dvs ds) (tk : Takes X W)
    (ha : PA X (e :: es) t) (hdb : (x == ("__debug__" : Str)) = false := by decide) (he : starEach (e :: es) X.env = (false, eval e X.env) :: starEach es X.env := by rfl) (hpl : (backTo pos (starEach es X.env)).any (·.1) = false := by rfl) :
    PE X (.Call (.Name x p) (e :: es) [] pos) (tCallG sp dvs W t) :=
  ⟨fun pins s σ H Q I h => wpAny_Call_Name_kw (ld_glob I hg hm (PySem.W.callWith_K (h₀ := X.base) I.ok.mod.kin hk (thn (ha.run pos pins s σ H _ I h) fun us s1 ⟨vs, H1, I1, r, q⟩ => ⟨I1.kIn, run_fnG F hr hb hd tk I1 r q⟩) he hpl) hdb)⟩
theorem pe_callG0 (F : FnG X.prog X.w X.K X.mg X.base k f fd ps sp) (hr : RG k X.A) (hg : Gl X x) (hm : X.mg x = some (.ref f)) (hk : PySem.W.keepIn X.K (.ref f) = true) (hb : Binds X.K fd ps ds) (hd : Vals dvs ds) (tk : Takes X W)
    (hdb : (x == ("__debug__" : Str)) = false := by decide) : PE X (.Call (.Name x p) [] [] pos) (tCallG sp dvs W tNil) :=
  ⟨fun pins s σ H Q I h => wpAny_Call_Name_kw (ld_glob I hg hm (PySem.W.callWith_K0 I.kIn hk (run_fnG (us := []) F hr hb hd tk I .nil h)) hdb)⟩
/-- a call of a def whose meaning is F -/
def eCall (F : FM) (a : AM) : EM := fun ρ h => (a ρ h).bind fun xs h1 => F xs h1
theorem se_call {F : FM} {a : AM} (G : FnG X.prog X.w X.K X.mg X.base k f fd ps (spF X.K F)) (hr : RG k X.A) (hg : Gl X x) (hm : X.mg x = some (.ref f)) (hk : PySem.W.keepIn X.K (.ref f) = true) (hb : Binds X.K fd ps []) (tk : Takes X W)
    (ha : PA X (e :: es) (TA_ X.K W a)) (hdb : (x == ("__debug__" : Str)) = false := by decide) (he : starEach (e :: es) X.env = (false, eval e X.env) :: starEach es X.env := by rfl) (hpl : (backTo pos (starEach es X.env)).any (·.1) = false := by rfl) :
    PE X (.Call (.Name x p) (e :: es) [] pos) (T X.K W (eCall F a)) :=
  (pe_callG G hr hg hm hk hb .nil tk ha hdb he hpl).imp fun σ H Q ⟨s, ρ, eh, rs, re, h⟩ => by
    subst eh
    refine TA_.bind rs re h fun xs s1 vs n h1 => ?_
    rw [List.append_nil]
    exact ⟨s1, xs, rfl, n.rs, n.rv, h1⟩
theorem se_call0 {F : FM} (G : FnG X.prog X.w X.K X.mg X.base k f fd ps (spF X.K F)) (hr : RG k X.A) (hg : Gl X x) (hm : X.mg x = some (.ref f)) (hk : PySem.W.keepIn X.K (.ref f) = true) (hb : Binds X.K fd ps []) (tk : Takes X W)
    (hdb : (x == ("__debug__" : Str)) = false := by decide) : PE X (.Call (.Name x p) [] [] pos) (T X.K W (eCall F aNil)) :=
  (pe_callG0 G hr hg hm hk hb .nil tk hdb).imp fun σ H Q ⟨s, ρ, eh, rs, re, h⟩ => by
    subst eh
    show spF X.K F ([] ++ []) s.H Q _
    exact ⟨s, [], rfl, rs, (by simp only [Rvs]; rfl), h⟩
end
/-! ### a def's meaning, from its body's -/
/-- n parameters, m names in all -/
def mkF (n m : Nat) (b : SM) : FM := fun xs h => if xs.length = n then
  (match b (xs.map some ++ List.replicate (m - n) none) h with
  | .nx _ h' => .ok .non h'
  | .rt r h' => .ok r h'
  | .exc C v _ h' => .exc C v h'
  | _ => .stuck) else .stuck
section
variable {P : Program} {w : World} {K : PySem.W.Frag} {mg : Str → Option Value} {base : Heap}
theorem Rvs.length_ {s : Sg} : ∀ {xs : List IV} {vs : List V}, RVs K s xs vs → xs.length = vs.length
  | [], vs, h => by
    simp only [Rvs] at h
    rw [h]
    rfl
  | x :: xs, vs, h => by
    simp only [Rvs] at h
    obtain ⟨z, zs, e, _, h2⟩ := h
    rw [e, List.length_cons, List.length_cons, Rvs.length_ h2]
theorem Rvs.at_ {s : Sg} : ∀ {xs : List IV} {vs : List V} {i : Nat} {x : IV}, RVs K s xs vs → xs[i]? = some x → ∃ v, vs[i]? = some v ∧ RV K s x v
  | [], vs, i, x, h, e => by simp at e
  | y :: xs, vs, i, x, h, e => by
    simp only [Rvs] at h
    obtain ⟨z, zs, ez, h1, h2⟩ := h
    subst ez
    cases i with
    | zero =>
      simp at e
      subst e
      exact ⟨z, by simp, h1⟩
    | succ i =>
      obtain ⟨v, q1, q2⟩ := Rvs.at_ h2 (by simpa using e)
      exact ⟨v, by simpa using q1, q2⟩
theorem mkF_len {n m : Nat} {b : SM} {xs : List IV} {s : Sg} {E : XK} {Q : VK} (h : After K E s (mkF n m b xs s.h) Q) : xs.length = n := by
  unfold mkF at h
  split at h
  · assumption
  · exact False.elim h
theorem re_start {s : Sg} {xs : List IV} {vs : List V} {N : List Str} (h : RVs K s xs vs) : RE K s (xs.map some ++ List.replicate (N.length - xs.length) none) (L2.start N vs) := by
  have hl := Rvs.length_ h
  refine ⟨by unfold L2.start; simp [hl], fun i x hx => ?_⟩
  by_cases hi : i < xs.length
  · rw [List.getElem?_append_left (by simpa using hi), List.getElem?_map] at hx
    cases e : xs[i]? with
    | none =>
      rw [e] at hx
      simp at hx
    | some y =>
      rw [e] at hx
      have ey : y = x := by simpa using hx
      subst ey
      obtain ⟨v, q1, q2⟩ := Rvs.at_ h e
      refine ⟨v, ?_, q2⟩
      unfold L2.start
      rw [List.getElem?_append_left (by simpa [← hl] using hi), List.getElem?_map, q1]
      rfl
  · rw [List.getElem?_append_right (by simpa using Nat.le_of_not_lt hi), List.getElem?_replicate] at hx
    split at hx
    · simp at hx
    · simp at hx
/-- THE RULE: a def as it stands behind the top keeps the promise of its meaning -/
theorem FunD.okM {x qual : Str} {params : Arguments} {body : List Stmt} {scope : Scope} {kws : List (Str × V)} {dvs : List V} {f : Addr} {fd : FuncData} {N ps : List Str} {k n m : Nat} {b : SM}
    (F : FunD K x qual params body scope dvs kws f fd) (S : FnScope N ps scope) (hn : ps.length = n) (hm : N.length = m)
    (hb : ∀ (cdv : Value) (A : Around) (outer : List Env) (s : Shared) (H : Hp) (E : XK), RG k (A.deeper (envOfC qual scope s.heap.objs.size f cdv)) →
      PSs (cxOf (L2.CX P w) P w K mg base N qual scope f cdv A outer s H E) body (TS_ K (fun c d _ H' => E c d H') b)) : FnG P w K mg base (k + 1) f fd ps (spF K (mkF n m b)) := by
  obtain ⟨oc, od, dV, kV, doc, pm, an, cdv, ct, osl, rfl, lk, hcd, _, _⟩ := F.ex
  refine fnG_of lk hcd S (fun vs H Q E ⟨s, xs, eh, rs, rv, h⟩ => ?_) fun A outer sh H vs Q E hr ⟨s, xs, eh, rs, rv, h⟩ => ⟨_, hb cdv A outer sh H E hr, ?_⟩
  · rw [← Rvs.length_ rv, mkF_len h, hn]
  · subst eh
    have hl := mkF_len h
    unfold mkF at h
    rw [if_pos hl, ← hl, ← hm] at h
    refine TS_.of rs (re_start rv) ?_
    revert h
    cases b (xs.map some ++ List.replicate (N.length - xs.length) none) s.h with
    | nx ρ h' => exact fun h s' σ' e r eh _ => h s' .non e r eh (by simp only [Rv])
    | rt r h' => exact fun h => h
    | exc C v ρ h' => exact fun h s' σ' e r eh _ => h s' e r eh
    | bk ρ h' => exact fun h => h.elim
    | ct ρ h' => exact fun h => h.elim
    | stuck => exact fun h => h.elim
end
end Mp

set_option maxHeartbeats 4000000
/-! Mp2: names, constants, operators, comparisons, tests, displays, subscripts, slices. -/
namespace Mp
open PySem PySem.Spec PyProof.Rows L2

/-! ### what a value is -/
def asL (x : IV) (h : List Cell) : Option (List IV) := match x with
  | .lst xs => some xs
  | .ref n => (match h[n]? with
    | some (.lst xs) => some xs
    | _ => none)
  | _ => none
/-- a list that is read, the script too -/
def asR (x : IV) (h : List Cell) : Option (List IV) := match x with
  | .scr xs => some xs
  | x => asL x h
def asT : IV → Option (List IV)
  | .tup xs => some xs
  | _ => none
section
variable {K : PySem.W.Frag} {s : Sg} {x y : IV} {xs ys : List IV} {v u : V}
theorem rv_non (h : RV K s .non v) : v = .non := by simpa only [Rv] using h
theorem rv_bl {b : Bool} (h : RV K s (.bl b) v) : v = .bl b := by simpa only [Rv] using h
theorem rv_int {i : Int} (h : RV K s (.int i) v) : v = .int i := by simpa only [Rv] using h
theorem rv_str {z : Str} (h : RV K s (.str z) v) : v = .str z := by simpa only [Rv] using h
theorem mk_non : RV K s .non .non := by simp only [Rv]
theorem mk_bl {b : Bool} : RV K s (.bl b) (.bl b) := by simp only [Rv]
theorem mk_int {i : Int} : RV K s (.int i) (.int i) := by simp only [Rv]
theorem mk_str {z : Str} : RV K s (.str z) (.str z) := by simp only [Rv]
theorem mk_tup {vs : List V} {a : Addr} (h : Fz s a (.tup vs)) (r : RVs K s xs vs) : RV K s (.tup xs) (.ref a) := by
  simp only [Rv]
  exact ⟨a, vs, rfl, .inl h, r⟩
theorem mk_lst {vs : List V} {a : Addr} (h : Fz s a (.lst vs)) (r : RVs K s xs vs) : RV K s (.lst xs) (.ref a) := by
  simp only [Rv]
  exact ⟨a, vs, rfl, h, r⟩
theorem mk_ref {n : Nat} {a : Addr} (h : At s n a) : RV K s (.ref n) (.ref a) := by
  simp only [Rv]
  exact ⟨a, h, rfl⟩
theorem rv_tup (h : RV K s (.tup xs) v) : ∃ a vs, v = .ref a ∧ SqT K s.H a vs ∧ RVs K s xs vs := by
  simp only [Rv] at h
  obtain ⟨a, vs, e, h1, h2⟩ := h
  refine ⟨a, vs, e, ?_, h2⟩
  rcases h1 with h1 | (h1 | h1)
  · exact .inl h1.2
  · rcases h1 with h1 | ⟨_, h1⟩ <;> cases h1
  · exact .inr h1
theorem rv_lst (h : RV K s (.lst xs) v) : ∃ a vs, v = .ref a ∧ Rd s.H a (.lst vs) ∧ RVs K s xs vs := by
  simp only [Rv] at h
  obtain ⟨a, vs, e, h1, h2⟩ := h
  exact ⟨a, vs, e, h1.2, h2⟩
theorem rv_scr (h : RV K s (.scr xs) v) : ∃ a vs, v = .ref a ∧ SqL K s.H a vs ∧ RVs K s xs vs := by
  simp only [Rv] at h
  obtain ⟨a, vs, e, h1, h2⟩ := h
  refine ⟨a, vs, e, ?_, h2⟩
  rcases h1 with h1 | (h1 | h1)
  · exact .inl h1.2
  · rcases h1 with h1 | ⟨_, h1⟩ <;> cases h1
  · exact .inr h1
theorem rv_ref {n : Nat} (h : RV K s (.ref n) v) : ∃ a, v = .ref a ∧ s.α[n]? = some a := by
  simp only [Rv] at h
  obtain ⟨a, h1, h2⟩ := h
  exact ⟨a, h2, h1⟩
theorem cell_lst (rs : RS K s) {n : Nat} {a : Addr} (ha : s.α[n]? = some a) (hc : s.h[n]? = some (.lst xs)) : ∃ vs, s.H a = some (.lst vs) ∧ RVs K s xs vs := rs.ob n a _ ha hc
theorem asL_rv (rs : RS K s) (h : RV K s x v) (e : asL x s.h = some xs) : ∃ a vs, v = .ref a ∧ Rd s.H a (.lst vs) ∧ RVs K s xs vs := by
  unfold asL at e
  split at e
  · cases e
    exact rv_lst h
  · rename_i n
    obtain ⟨a, e1, e2⟩ := rv_ref h
    split at e
    · rename_i q
      cases e
      obtain ⟨vs, h1, h2⟩ := cell_lst rs e2 q
      exact ⟨a, vs, e1, .inl h1, h2⟩
    · cases e
  · cases e
theorem asR_rv (rs : RS K s) (h : RV K s x v) (e : asR x s.h = some xs) : ∃ a vs, v = .ref a ∧ SqL K s.H a vs ∧ RVs K s xs vs := by
  unfold asR at e
  split at e
  · cases e
    exact rv_scr h
  · obtain ⟨a, vs, e1, h1, h2⟩ := asL_rv rs h e
    exact ⟨a, vs, e1, .inl h1, h2⟩
theorem asT_rv (h : RV K s x v) (e : asT x = some xs) : ∃ a vs, v = .ref a ∧ SqT K s.H a vs ∧ RVs K s xs vs := by
  unfold asT at e
  split at e
  · cases e
    exact rv_tup h
  · cases e
theorem Rvs.append : ∀ {xs ys : List IV} {vs us : List V}, RVs K s xs vs → RVs K s ys us → RVs K s (xs ++ ys) (vs ++ us)
  | [], ys, vs, us, h, k => by
    simp only [Rvs] at h
    subst h
    exact k
  | x :: xs, ys, vs, us, h, k => by
    simp only [Rvs] at h
    obtain ⟨z, zs, e, h1, h2⟩ := h
    subst e
    show Rvs K (At s) (Fz s) (x :: (xs ++ ys)) (z :: (zs ++ us))
    simp only [Rvs]
    exact ⟨z, _, rfl, h1, Rvs.append h2 k⟩
theorem Rvs.one (h : RV K s x v) : RVs K s [x] [v] := by
  simp only [Rvs]
  exact ⟨v, [], rfl, h, rfl⟩
theorem Rvs.nil_ : RVs K s [] [] := by
  simp only [Rvs]
theorem Rvs.take_ : ∀ {xs : List IV} {vs : List V} (n : Nat), RVs K s xs vs → RVs K s (xs.take n) (vs.take n)
  | [], vs, n, h => by
    simp only [Rvs] at h
    subst h
    rw [List.take_nil, List.take_nil]
    exact Rvs.nil_
  | x :: xs, vs, n, h => by
    simp only [Rvs] at h
    obtain ⟨z, zs, e, h1, h2⟩ := h
    subst e
    cases n with
    | zero => exact Rvs.nil_
    | succ n =>
      show Rvs K (At s) (Fz s) (x :: xs.take n) (z :: zs.take n)
      simp only [Rvs]
      exact ⟨z, _, rfl, h1, Rvs.take_ n h2⟩
theorem Rvs.drop_ : ∀ {xs : List IV} {vs : List V} (n : Nat), RVs K s xs vs → RVs K s (xs.drop n) (vs.drop n)
  | [], vs, n, h => by
    simp only [Rvs] at h
    subst h
    rw [List.drop_nil, List.drop_nil]
    exact Rvs.nil_
  | x :: xs, vs, n, h => by
    cases n with
    | zero => exact h
    | succ n =>
      simp only [Rvs] at h
      obtain ⟨z, zs, e, h1, h2⟩ := h
      subst e
      exact Rvs.drop_ n h2
theorem Rvs.set_ : ∀ {xs : List IV} {vs : List V} (n : Nat), RVs K s xs vs → RV K s x v → RVs K s (xs.set n x) (vs.set n v)
  | [], vs, n, h, _ => by
    simp only [Rvs] at h
    subst h
    exact Rvs.nil_
  | y :: xs, vs, n, h, k => by
    simp only [Rvs] at h
    obtain ⟨z, zs, e, h1, h2⟩ := h
    subst e
    cases n with
    | zero =>
      show Rvs K (At s) (Fz s) (x :: xs) (v :: zs)
      simp only [Rvs]
      exact ⟨v, _, rfl, k, h2⟩
    | succ n =>
      show Rvs K (At s) (Fz s) (y :: xs.set n x) (z :: zs.set n v)
      simp only [Rvs]
      exact ⟨z, _, rfl, h1, Rvs.set_ n h2 k⟩
end

/-! ### names, constants -/
def eVar (i : Nat) : EM := fun ρ h => match ρ[i]? with
  | some (some x) => .ok x h
  | _ => .stuck
def eC (x : IV) : EM := fun _ h => .ok x h
section
variable {X : Cx} {W : WX}
theorem se_var (i : Nat) {x : Str} {pos : Pos} (hN : X.N[i]? = some x := by rfl) (hv : Vis X.env.scope x := by first | exact Or.inl rfl | exact Or.inr (Or.inl rfl) | exact Or.inr (Or.inr rfl)) (hd : (x == ("__debug__" : Str)) = false := by decide)
    (hcd : (x == ("__classdict__" : Str)) = false := by decide) : PE X (.Name x pos) (T X.K W (eVar i)) :=
  (pe_var hN hv hd hcd).imp fun σ H Q ⟨s, ρ, eh, rs, re, h⟩ => by
    subst eh
    unfold eVar at h
    split at h
    · rename_i y q
      obtain ⟨v, e1, e2⟩ := re.at_ i y q
      exact ⟨v, e1, h.ret rs e2⟩
    · exact False.elim h
theorem T.const {x : IV} {v : V} (hv : ∀ s, RS X.K s → RV X.K s x v) {σ : L2.St} {H : Hp} {Q : VK} (h : T X.K W (eC x) σ H Q) : tC v σ H Q := by
  obtain ⟨s, ρ, eh, rs, re, h⟩ := h
  subst eh
  exact After.ret (x := x) (v := v) h rs (hv s rs)
theorem se_int {i j pos} : PE X (.Constant (.int i) j pos) (T X.K W (eC (.int i))) := pe_int.imp fun _ _ _ h => T.const (fun _ _ => mk_int) h
theorem se_bl {b j pos} : PE X (.Constant (.bool b) j pos) (T X.K W (eC (.bl b))) := pe_bl.imp fun _ _ _ h => T.const (fun _ _ => mk_bl) h
theorem se_non {j pos} : PE X (.Constant .none j pos) (T X.K W (eC .non)) := pe_non.imp fun _ _ _ h => T.const (fun _ _ => mk_non) h
theorem se_str {x j pos} : PE X (.Constant (.str x) j pos) (T X.K W (eC (.str x))) := pe_str.imp fun _ _ _ h => T.const (fun _ _ => mk_str) h
/-- a module's constant -/
theorem se_glob {x : Str} {c : IV} {v : V} {u : Value} {pos : Pos} (hg : Gl X x) (hm : X.mg x = some u) (r : RelV v u) (hv : ∀ s, RS X.K s → RV X.K s c v) (hd : (x == ("__debug__" : Str)) = false := by decide) : PE X (.Name x pos) (T X.K W (eC c)) :=
  (pe_glob hg hm r hd).imp fun _ _ _ h => T.const hv h
theorem se_globI {x : Str} {i : Int} {pos : Pos} (hg : Gl X x) (hm : ∃ t, X.mg x = some (.int i t)) (hd : (x == ("__debug__" : Str)) = false := by decide) : PE X (.Name x pos) (T X.K W (eC (.int i))) :=
  let ⟨t, e⟩ := hm; se_glob hg e (v := .int i) ⟨t, rfl⟩ (fun _ _ => mk_int) hd
theorem se_globS {x : Str} {z : Str} {pos : Pos} (hg : Gl X x) (hm : ∃ t, X.mg x = some (.str z t)) (hd : (x == ("__debug__" : Str)) = false := by decide) : PE X (.Name x pos) (T X.K W (eC (.str z))) :=
  let ⟨t, e⟩ := hm; se_glob hg e (v := .str z) ⟨t, rfl⟩ (fun _ _ => mk_str) hd
/-- a def, a class of the module -/
theorem se_globD {x : Str} {pos : Pos} (hg : Gl X x) (hm : X.mg x = some (.ref (He.ga X.K x))) (hd : (x == ("__debug__" : Str)) = false := by decide) : PE X (.Name x pos) (T X.K W (eC (.glo x))) :=
  se_glob hg hm (v := .ref (He.ga X.K x)) rfl (fun _ _ => by simp only [Rv]) hd
/-- a built-in class's name -/
theorem se_globT {x : Str} {n : String} {pos : Pos} (hg : Gl X x) (hm : X.mg x = none) (hv : bootBuiltins x = some (.type n)) (hn : x ≠ "__name__" := by decide) (hd : (x == ("__debug__" : Str)) = false := by decide) : PE X (.Name x pos) (T X.K W (eC (.ty n))) :=
  (pe_bltn (v := .ty n) hg hm hv rfl hn hd).imp fun _ _ _ h => T.const (fun _ _ => by simp only [Rv]) h
end

/-! ### operators on two values -/
abbrev M2 := IV → IV → List Cell → Res
def OpM (X : Cx) (f : Value → Value → Sem Value) (g : M2) : Prop := ∃ r : R2, OpR X f r ∧
  ∀ (s : Sg) (x y : IV) (v u : V) (E : XK) (Q : VK), RS X.K s → RV X.K s x v → RV X.K s y u → After X.K E s (g x y s.h) Q → r v u s.H Q
def eBin (g : M2) (a b : EM) : EM := fun ρ h => (a ρ h).bind fun x h1 => (b ρ h1).bind fun y h2 => g x y h2
section
variable {X : Cx} {W : WX} {a b c : Expr} {ma mb mc : EM} {pos : Pos}
theorem T.bin {g : M2} {r : R2} (hr : ∀ (s : Sg) (x y : IV) (v u : V) (E : XK) (Q : VK), RS X.K s → RV X.K s x v → RV X.K s y u → After X.K E s (g x y s.h) Q → r v u s.H Q)
    {σ : L2.St} {H : Hp} {Q : VK} (h : T X.K W (eBin g ma mb) σ H Q) : tOp r (T X.K W ma) (T X.K W mb) σ H Q := by
  obtain ⟨s, ρ, eh, rs, re, h⟩ := h
  subst eh
  refine T.bind rs re h fun x s1 v n1 h1 => ?_
  refine T.bind n1.rs n1.re h1 fun y s2 u n2 h2 => ?_
  exact hr s2 x y v u _ Q n2.rs (n1.rv.ext n2.ext) n2.rv h2
theorem se_op {op : Operator} {g : M2} (o : OpM X (binaryOp op) g) (ha : PE X a (T X.K W ma)) (hb : PE X b (T X.K W mb)) : PE X (.BinOp a op b pos) (T X.K W (eBin g ma mb)) := by
  obtain ⟨r, ho, hr⟩ := o
  exact (pe_op ho ha hb).imp fun _ _ _ h => T.bin hr h
theorem se_cmp {op : CmpOp} {g : M2} (o : OpM X (compareOp op) g) (ha : PE X a (T X.K W ma)) (hb : PE X b (T X.K W mb)) (hm : behindInMarks op b = false := by first | exact nomark _ | rfl) : PE X (.Compare a [op] [b] pos) (T X.K W (eBin g ma mb)) := by
  obtain ⟨r, ho, hr⟩ := o
  exact (pe_cmpR ho ha hb hm).imp fun _ _ _ h => T.bin hr h
theorem OpM.or {f : Value → Value → Sem Value} {g1 g2 : M2} (h1 : OpM X f g1) (h2 : OpM X f g2) : OpM X f (fun x y h => match g1 x y h with
    | .stuck => g2 x y h
    | r => r) := by
  obtain ⟨r1, o1, q1⟩ := h1
  obtain ⟨r2, o2, q2⟩ := h2
  refine ⟨fun v u H Q => r1 v u H Q ∨ r2 v u H Q, fun pins sh σ H x y v u Q I rx ry q => ?_, fun s x y v u E Q rs rx ry h => ?_⟩
  · exact q.elim (o1 pins sh σ H x y v u Q I rx ry) (o2 pins sh σ H x y v u Q I rx ry)
  · dsimp only at h
    split at h
    · exact .inr (q2 s x y v u E Q rs rx ry h)
    · exact .inl (q1 s x y v u E Q rs rx ry h)
end
/-- two ints -/
def gII (p : Int → Int → Bool) (f : Int → Int → IV) : M2 := fun x y h => match x, y with
  | .int i, .int j => if p i j then .ok (f i j) h else .stuck
  | _, _ => .stuck
section
variable {X : Cx}
theorem opm_II {f' : Value → Value → Sem Value} {C : Int → Int → Prop} {g : Int → Int → V} {p : Int → Int → Bool} {f : Int → Int → IV} (o : OpR X f' (rI C g)) (hp : ∀ i j, p i j = true → C i j)
    (hf : ∀ s i j, RS X.K s → RV X.K s (f i j) (g i j)) : OpM X f' (gII p f) := by
  refine ⟨_, o, fun s x y v u E Q rs rx ry h => ?_⟩
  unfold gII at h
  split at h
  · split at h
    · rename_i q
      rw [rv_int rx, rv_int ry]
      exact ⟨_, _, rfl, rfl, hp _ _ q, After.ret h rs (hf s _ _ rs)⟩
    · exact False.elim h
  · exact False.elim h
theorem opm_II0 {f' : Value → Value → Sem Value} {g : Int → Int → V} {f : Int → Int → IV} (o : OpR X f' (rI0 g)) (hf : ∀ s i j, RS X.K s → RV X.K s (f i j) (g i j)) : OpM X f' (gII (fun _ _ => true) f) := by
  refine ⟨_, o, fun s x y v u E Q rs rx ry h => ?_⟩
  unfold gII at h
  split at h
  · rw [rv_int rx, rv_int ry]
    rw [if_pos rfl] at h
    exact ⟨_, _, rfl, rfl, After.ret h rs (hf s _ _ rs)⟩
  · exact False.elim h
def gAddI : M2 := gII (fun _ _ => true) fun i j => .int (i + j)
def gSub : M2 := gII (fun _ _ => true) fun i j => .int (i - j)
def gMul : M2 := gII (fun i j => decide (i.natAbs.log2 + j.natAbs.log2 < 1000000)) fun i j => .int (i * j)
def gMod : M2 := gII (fun _ j => decide (0 < j)) fun i j => .int (i % j)
def gDiv : M2 := gII (fun _ j => decide (0 < j) && decide (j.natAbs.log2 < 9000)) fun i j => .int (i / j)
def gPow : M2 := gII (fun i j => decide (0 ≤ j) && decide ((Builtin.Int.intBits i : Int) * j ≤ 2 ^ 27)) fun i j => .int (i ^ j.toNat)
def gShl : M2 := gII (fun i j => decide (0 ≤ j ∧ j ≤ 1000000 ∧ i.natAbs < 2 ^ 64)) fun i j => .int (i * 2 ^ j.toNat)
def gShr : M2 := gII (fun _ j => decide (0 ≤ j)) fun i j => .int (i / 2 ^ j.toNat)
def gBitAnd : M2 := gII (fun _ _ => true) fun i j => .int (Builtin.bitAnd i j)
def gLtI : M2 := gII (fun _ _ => true) fun i j => .bl (decide (i < j))
def gLeI : M2 := gII (fun _ _ => true) fun i j => .bl (decide (i ≤ j))
def gGtI : M2 := gII (fun _ _ => true) fun i j => .bl (decide (j < i))
def gGeI : M2 := gII (fun _ _ => true) fun i j => .bl (decide (j ≤ i))
theorem om_addI : OpM X (binaryOp .Add) gAddI := opm_II0 op_add fun _ _ _ _ => mk_int
theorem om_sub : OpM X (binaryOp .Sub) gSub := opm_II0 op_sub fun _ _ _ _ => mk_int
theorem om_mul : OpM X (binaryOp .Mult) gMul := opm_II op_mulW (fun i j h => (show i.natAbs.log2 + j.natAbs.log2 < 1000000 from of_decide_eq_true h)) fun _ _ _ _ => mk_int
theorem om_mod : OpM X (binaryOp .Mod) gMod := opm_II op_mod (fun _ _ h => of_decide_eq_true h) fun _ _ _ _ => mk_int
theorem om_div : OpM X (binaryOp .FloorDiv) gDiv := opm_II op_fdivW (fun _ _ h => ⟨of_decide_eq_true (Bool.and_eq_true_iff.mp h).1, of_decide_eq_true (Bool.and_eq_true_iff.mp h).2⟩) fun _ _ _ _ => mk_int
theorem op_powM : OpR X (binaryOp .Pow) (rI (fun i j => 0 ≤ j ∧ (Builtin.Int.intBits i : Int) * j ≤ 2 ^ 27) fun i j => .int (i ^ j.toNat)) := opI fun _ _ _ _ _ _ _ hc q => pow_int hc.1 hc.2 q
theorem om_pow : OpM X (binaryOp .Pow) gPow := opm_II op_powM (fun _ _ h => ⟨of_decide_eq_true (Bool.and_eq_true_iff.mp h).1, of_decide_eq_true (Bool.and_eq_true_iff.mp h).2⟩) fun _ _ _ _ => mk_int
theorem om_shl : OpM X (binaryOp .LShift) gShl := opm_II op_shl (fun i j h => (show 0 ≤ j ∧ j ≤ 1000000 ∧ i.natAbs < 2 ^ 64 from of_decide_eq_true h)) fun _ _ _ _ => mk_int
theorem om_shr : OpM X (binaryOp .RShift) gShr := opm_II op_shr (fun _ _ h => of_decide_eq_true h) fun _ _ _ _ => mk_int
theorem om_bitAnd : OpM X (binaryOp .BitAnd) gBitAnd := opm_II0 op_and fun _ _ _ _ => mk_int
theorem om_lt : OpM X (compareOp .Lt) gLtI := opm_II0 op_lt fun _ _ _ _ => mk_bl
theorem om_le : OpM X (compareOp .LtE) gLeI := opm_II0 op_le fun _ _ _ _ => mk_bl
theorem om_gt : OpM X (compareOp .Gt) gGtI := opm_II0 op_gt fun _ _ _ _ => mk_bl
theorem om_ge : OpM X (compareOp .GtE) gGeI := opm_II0 op_ge fun _ _ _ _ => mk_bl
end
/-! texts, lists, tuples -/
def gAddS : M2 := fun x y h => match x, y with
  | .str a, .str b => if a.length + b.length ≤ sizeLine then .ok (.str (a ++ b)) h else .stuck
  | _, _ => .stuck
def gAddL : M2 := fun x y h => match asL x h, asL y h with
  | some xs, some ys => if xs.length + ys.length ≤ sizeLine then .ok (.lst (xs ++ ys)) h else .stuck
  | _, _ => .stuck
def gAddT : M2 := fun x y h => match asT x, asT y with
  | some xs, some ys => if xs.length + ys.length ≤ sizeLine then .ok (.tup (xs ++ ys)) h else .stuck
  | _, _ => .stuck
section
variable {X : Cx}
theorem om_addS : OpM X (binaryOp .Add) gAddS := by
  refine ⟨_, op_add_str, fun s x y v u E Q rs rx ry h => ?_⟩
  unfold gAddS at h
  split at h
  · split at h
    · rename_i q
      rw [rv_str rx, rv_str ry]
      exact ⟨_, _, rfl, rfl, q, After.ret h rs mk_str⟩
    · exact False.elim h
  · exact False.elim h
/-- the lists may be read -/
def rCatR : R2 := fun x y H Q => ∃ l b xs zs, x = .ref l ∧ y = .ref b ∧ Rd H l (.lst xs) ∧ Rd H b (.lst zs) ∧ xs.length + zs.length ≤ sizeLine ∧ ∀ p, H p = none → Q (.ref p) (upd H p (.lst (xs ++ zs)))
theorem op_catR : OpR X (binaryOp .Add) rCatR := by
  intro pins sh σ H x y v u Q I rx ry h
  obtain ⟨l, b, xs, zs, rfl, rfl, hH, hB, hz, q⟩ := h
  cases rx
  cases ry
  obtain ⟨_, its, n, r, e⟩ := hH.ok I.hok
  obtain ⟨_, its2, n2, r2, e2⟩ := hB.ok I.hok
  have l1 := r.length
  have l2 := r2.length
  refine PySem.P.add_list e e2 ?_ (by rw [List.size_toArray, List.size_toArray]; omega)
  have ea : its.toArray ++ its2.toArray = (its ++ its2).toArray := by simp
  rw [ea]
  have hf : H sh.heap.objs.size = none := I.hok.fresh (Nat.le_refl _)
  exact ⟨.ref _, upd H sh.heap.objs.size (.lst (xs ++ zs)), I.laid (t' := sh.toks) (fun b u e => Heap.get?_push_of_some _ e) (Nat.le_refl _) (show ObjOk _ _ _ _ _ (.lst (xs ++ zs)) from ⟨by rw [List.length_append]; omega, _, 0, r.append r2, Heap.get?_push_size _ rfl⟩), rfl, q _ hf⟩
theorem om_addL : OpM X (binaryOp .Add) gAddL := by
  refine ⟨_, op_catR, fun s x y v u E Q rs rx ry h => ?_⟩
  unfold gAddL at h
  split at h
  · rename_i xs ys e1 e2
    split at h
    · rename_i q
      obtain ⟨a, vs, rfl, h1, h2⟩ := asL_rv rs rx e1
      obtain ⟨b, us, rfl, k1, k2⟩ := asL_rv rs ry e2
      refine ⟨a, b, vs, us, rfl, rfl, h1, k1, by rw [← Rvs.length_ h2, ← Rvs.length_ k2]; exact q, fun p hp => ?_⟩
      exact h.put rs hp (mk_lst (Fz.put rs hp) ((h2.append k2).ext (Ext.put rs hp)))
    · exact False.elim h
  · exact False.elim h
theorem om_addT : OpM X (binaryOp .Add) gAddT := by
  refine ⟨_, op_catA, fun s x y v u E Q rs rx ry h => ?_⟩
  unfold gAddT at h
  split at h
  · rename_i xs ys e1 e2
    split at h
    · rename_i q
      have ex : x = .tup xs := by
        unfold asT at e1
        split at e1
        · cases e1; rfl
        · cases e1
      have ey : y = .tup ys := by
        unfold asT at e2
        split at e2
        · cases e2; rfl
        · cases e2
      obtain ⟨a, vs, rfl, h1, h2⟩ := asT_rv rx e1
      obtain ⟨b, us, rfl, k1, k2⟩ := asT_rv ry e2
      have l1 := Rvs.length_ h2
      have l2 := Rvs.length_ k2
      refine ⟨a, b, vs, us, rfl, rfl, h1, k1, by rw [← l1, ← l2]; exact q, fun z => ?_, fun _ z => ?_, fun _ _ p hp => ?_⟩
      · have e : xs = [] := List.eq_nil_of_length_eq_zero (by rw [l1, z]; rfl)
        rw [e] at h
        exact h.ret rs (by rw [List.nil_append, ← ey]; exact ry)
      · have e : ys = [] := List.eq_nil_of_length_eq_zero (by rw [l2, z]; rfl)
        rw [e] at h
        exact h.ret rs (by rw [List.append_nil, ← ex]; exact rx)
      · exact h.put rs hp (mk_tup (Fz.put rs hp) ((h2.append k2).ext (Ext.put rs hp)))
    · exact False.elim h
  · exact False.elim h
end
end Mp

set_option maxHeartbeats 4000000
/-! Mp3: data compared, in, is None, chains, and, or, not, if, tests, displays, subscripts, slices. -/
namespace Mp
open PySem PySem.Spec PyProof.Rows L2

/-! ### data -/
mutual
def toD : IV → Option PyData
  | .non => some .none
  | .bl b => some (.bool b)
  | .int i => some (.int i)
  | .str z => some (.str z)
  | .tup xs => (toDs xs).map .tuple
  | .lst xs => (toDs xs).map .list
  | _ => none
def toDs : List IV → Option (List PyData)
  | [] => some []
  | x :: xs => match toD x, toDs xs with
    | some d, some ds => some (d :: ds)
    | _, _ => none
end
def toDc (x : IV) (h : List Cell) : Option PyData := match x with
  | .ref n => (match h[n]? with
    | some (.lst xs) => (toDs xs).map .list
    | _ => none)
  | x => toD x
section
variable {K : PySem.W.Frag} {s : Sg}
mutual
theorem toD_dp : ∀ (x : IV) (v : V) (d : PyData), RV K s x v → toD x = some d → Dp K s.H v d
  | .non, v, d, h, e => by
    rw [rv_non h]
    simp only [toD] at e
    cases e
    exact .non
  | .bl b, v, d, h, e => by
    rw [rv_bl h]
    simp only [toD] at e
    cases e
    exact .bl b
  | .int i, v, d, h, e => by
    rw [rv_int h]
    simp only [toD] at e
    cases e
    exact .int i
  | .str z, v, d, h, e => by
    rw [rv_str h]
    simp only [toD] at e
    cases e
    exact .str z
  | .tup xs, v, d, h, e => by
    simp only [toD, Option.map_eq_some_iff] at e
    obtain ⟨ds, e1, e2⟩ := e
    obtain ⟨a, vs, rfl, h1, h2⟩ := rv_tup h
    rw [← e2]
    exact .tup h1 (toDs_dp xs vs ds h2 e1)
  | .lst xs, v, d, h, e => by
    simp only [toD, Option.map_eq_some_iff] at e
    obtain ⟨ds, e1, e2⟩ := e
    obtain ⟨a, vs, rfl, h1, h2⟩ := rv_lst h
    rw [← e2]
    exact .lst (.inl h1) (toDs_dp xs vs ds h2 e1)
  | .scr _, _, _, _, e => by simp only [toD] at e; cases e
  | .ty _, _, _, _, e => by simp only [toD] at e; cases e
  | .glo _, _, _, _, e => by simp only [toD] at e; cases e
  | .ref _, _, _, _, e => by simp only [toD] at e; cases e
  | .dic _ _, _, _, _, e => by simp only [toD] at e; cases e
  | .ins _ _ _, _, _, _, e => by simp only [toD] at e; cases e
  | .err _ _, _, _, _, e => by simp only [toD] at e; cases e
theorem toDs_dp : ∀ (xs : List IV) (vs : List V) (ds : List PyData), RVs K s xs vs → toDs xs = some ds → DpAll K s.H vs ds
  | [], vs, ds, h, e => by
    simp only [toDs] at e
    cases e
    simp only [Rvs] at h
    subst h
    exact .nil
  | x :: xs, vs, ds, h, e => by
    simp only [Rvs] at h
    obtain ⟨z, zs, ez, h1, h2⟩ := h
    subst ez
    simp only [toDs] at e
    split at e
    · rename_i d ds' q1 q2
      cases e
      exact .cons (toD_dp x z d h1 q1) (toDs_dp xs zs ds' h2 q2)
    · cases e
end
theorem toDc_dp (rs : RS K s) {x : IV} {v : V} {d : PyData} (h : RV K s x v) (e : toDc x s.h = some d) : Dp K s.H v d := by
  unfold toDc at e
  split at e
  · obtain ⟨a, rfl, e2⟩ := rv_ref h
    split at e
    · rename_i xs q
      obtain ⟨ds, e1, e3⟩ := Option.map_eq_some_iff.mp e
      obtain ⟨vs, h1, h2⟩ := cell_lst rs e2 q
      rw [← e3]
      exact .lst (.inl (.inl h1)) (toDs_dp xs vs ds h2 e1)
    · cases e
  · exact toD_dp _ _ _ h e
end
def gD2 (f : PyData → PyData → Bool) : M2 := fun x y h => match toDc x h, toDc y h with
  | some d, some e => if SeqAt.shaped d && SeqAt.shaped e then .ok (.bl (f d e)) h else .stuck
  | _, _ => .stuck
def gEq : M2 := gD2 fun d e => PyData.eqv d e
def gNe : M2 := gD2 fun d e => !PyData.eqv d e
/-- x in a list or tuple of data -/
def gInD (neg : Bool) : M2 := fun x y h => match toDc x h, toDc y h with
  | some d, some (.list ds) => if SeqAt.shaped d && SeqAt.shaped (.list ds) then .ok (.bl (if neg then !ds.any (fun z => PyData.eqv z d) else ds.any fun z => PyData.eqv z d)) h else .stuck
  | _, _ => .stuck
/-- x in a list or tuple of None, bools, ints, texts -/
def flatI : IV → Bool
  | .non => true
  | .bl _ => true
  | .int _ => true
  | .str _ => true
  | _ => false
def eqI : IV → IV → Bool
  | .non, .non => true
  | .bl a, .bl b => a == b
  | .bl a, .int b => (if a then 1 else 0) == b
  | .int a, .bl b => a == (if b then 1 else 0)
  | .int a, .int b => a == b
  | .str a, .str b => a == b
  | _, _ => false
def gInF (neg : Bool) : M2 := fun x y h => match asT y, asL y h with
  | some xs, _ => if flatI x && xs.all flatI then .ok (.bl (if neg then !xs.any (fun z => eqI z x) else xs.any fun z => eqI z x)) h else .stuck
  | none, some xs => if flatI x && xs.all flatI then .ok (.bl (if neg then !xs.any (fun z => eqI z x) else xs.any fun z => eqI z x)) h else .stuck
  | _, _ => .stuck
/-- one sign in a text -/
def gInS (neg : Bool) : M2 := fun x y h => match x, y with
  | .str a, .str b => (match a.cps.toList with
    | [c] => .ok (.bl (if neg then !decide (c ∈ b.cps.toList) else decide (c ∈ b.cps.toList))) h
    | _ => .stuck)
  | _, _ => .stuck
def isN : IV → Bool
  | .non => true
  | _ => false
def gIs : M2 := fun x y h => match y with
  | .non => .ok (.bl (isN x)) h
  | _ => .stuck
def gIsNot : M2 := fun x y h => match y with
  | .non => .ok (.bl (!isN x)) h
  | _ => .stuck
section
variable {X : Cx}
theorem om_eq (hu : X.A.units + 64 < cLine) : OpM X (compareOp .Eq) gEq := by
  refine ⟨_, op_eqD hu, fun s x y v u E Q rs rx ry h => ?_⟩
  unfold gEq gD2 at h
  split at h
  · rename_i d e q1 q2
    split at h
    · rename_i q
      obtain ⟨h1, h2⟩ := Bool.and_eq_true_iff.mp q
      exact ⟨d, e, toDc_dp rs rx q1, toDc_dp rs ry q2, h1, h2, h.ret rs mk_bl⟩
    · exact False.elim h
  · exact False.elim h
theorem om_ne (hu : X.A.units + 64 < cLine) : OpM X (compareOp .NotEq) gNe := by
  refine ⟨_, op_neD hu, fun s x y v u E Q rs rx ry h => ?_⟩
  unfold gNe gD2 at h
  split at h
  · rename_i d e q1 q2
    split at h
    · rename_i q
      obtain ⟨h1, h2⟩ := Bool.and_eq_true_iff.mp q
      exact ⟨d, e, toDc_dp rs rx q1, toDc_dp rs ry q2, h1, h2, h.ret rs mk_bl⟩
    · exact False.elim h
  · exact False.elim h
theorem om_inD (hu : X.A.units + 65 < cLine) : OpM X (compareOp .In) (gInD false) := by
  refine ⟨_, op_inD hu, fun s x y v u E Q rs rx ry h => ?_⟩
  unfold gInD at h
  split at h
  · rename_i d ds q1 q2
    split at h
    · rename_i q
      obtain ⟨h1, h2⟩ := Bool.and_eq_true_iff.mp q
      exact ⟨d, ds, toDc_dp rs rx q1, toDc_dp rs ry q2, h1, h2, h.ret rs mk_bl⟩
    · exact False.elim h
  · exact False.elim h
theorem om_notInD (hu : X.A.units + 65 < cLine) : OpM X (compareOp .NotIn) (gInD true) := by
  refine ⟨_, op_notInD hu, fun s x y v u E Q rs rx ry h => ?_⟩
  unfold gInD at h
  split at h
  · rename_i d ds q1 q2
    split at h
    · rename_i q
      obtain ⟨h1, h2⟩ := Bool.and_eq_true_iff.mp q
      exact ⟨d, ds, toDc_dp rs rx q1, toDc_dp rs ry q2, h1, h2, h.ret rs mk_bl⟩
    · exact False.elim h
  · exact False.elim h
theorem flat_rv {K : PySem.W.Frag} {s : Sg} {x : IV} {v : V} (h : RV K s x v) (f : flatI x = true) : flatV v = true := by
  cases x with
  | non => rw [rv_non h]; rfl
  | bl b => rw [rv_bl h]; rfl
  | int i => rw [rv_int h]; rfl
  | str z => rw [rv_str h]; rfl
  | _ => cases f
theorem eq_rv {K : PySem.W.Frag} {s : Sg} {x y : IV} {v u : V} (h : RV K s x v) (k : RV K s y u) (f : flatI x = true) (g : flatI y = true) : eqV v u = eqI x y := by
  cases x with
  | non =>
    cases y with
    | non => rw [rv_non h, rv_non k]; rfl
    | bl b => rw [rv_non h, rv_bl k]; rfl
    | int i => rw [rv_non h, rv_int k]; rfl
    | str z => rw [rv_non h, rv_str k]; rfl
    | _ => cases g
  | bl b =>
    cases y with
    | non => rw [rv_bl h, rv_non k]; rfl
    | bl b => rw [rv_bl h, rv_bl k]; rfl
    | int i => rw [rv_bl h, rv_int k]; rfl
    | str z => rw [rv_bl h, rv_str k]; rfl
    | _ => cases g
  | int i =>
    cases y with
    | non => rw [rv_int h, rv_non k]; rfl
    | bl b => rw [rv_int h, rv_bl k]; rfl
    | int i => rw [rv_int h, rv_int k]; rfl
    | str z => rw [rv_int h, rv_str k]; rfl
    | _ => cases g
  | str z =>
    cases y with
    | non => rw [rv_str h, rv_non k]; rfl
    | bl b => rw [rv_str h, rv_bl k]; rfl
    | int i => rw [rv_str h, rv_int k]; rfl
    | str z => rw [rv_str h, rv_str k]; rfl
    | _ => cases g
  | _ => cases f
theorem flats_rv {K : PySem.W.Frag} {s : Sg} : ∀ {xs : List IV} {vs : List V}, RVs K s xs vs → xs.all flatI = true → vs.all flatV = true
  | [], vs, h, _ => by
    simp only [Rvs] at h
    subst h
    rfl
  | x :: xs, vs, h, f => by
    simp only [Rvs] at h
    obtain ⟨z, zs, e, h1, h2⟩ := h
    subst e
    rw [List.all_cons, Bool.and_eq_true] at f ⊢
    exact ⟨flat_rv h1 f.1, flats_rv h2 f.2⟩
theorem any_rv {K : PySem.W.Frag} {s : Sg} {y : IV} {u : V} (k : RV K s y u) (g : flatI y = true) : ∀ {xs : List IV} {vs : List V}, RVs K s xs vs → xs.all flatI = true → inV u vs = xs.any fun z => eqI z y
  | [], vs, h, _ => by
    simp only [Rvs] at h
    subst h
    rfl
  | x :: xs, vs, h, f => by
    simp only [Rvs] at h
    obtain ⟨z, zs, e, h1, h2⟩ := h
    subst e
    rw [List.all_cons, Bool.and_eq_true] at f
    have ih := any_rv k g h2 f.2
    unfold inV at ih ⊢
    rw [List.any_cons, List.any_cons, ih, eq_rv h1 k f.1 g]
theorem inF_of {neg : Bool} {s : Sg} {x y : IV} {v u : V} {E : XK} {Q : VK} (rs : RS X.K s) (rx : RV X.K s x v) (ry : RV X.K s y u) (h : After X.K E s (gInF neg x y s.h) Q) : rIn X.K neg v u s.H Q := by
  unfold gInF at h
  split at h
  · rename_i xs e1
    split at h
    · rename_i q
      obtain ⟨q1, q2⟩ := Bool.and_eq_true_iff.mp q
      obtain ⟨a, vs, rfl, h1, h2⟩ := asT_rv ry e1
      exact ⟨a, vs, rfl, .inr h1, flat_rv rx q1, flats_rv h2 q2, by rw [any_rv rx q1 h2 q2]; exact h.ret rs mk_bl⟩
    · exact False.elim h
  · rename_i xs e1 e2
    split at h
    · rename_i q
      obtain ⟨q1, q2⟩ := Bool.and_eq_true_iff.mp q
      obtain ⟨a, vs, rfl, h1, h2⟩ := asL_rv rs ry e2
      exact ⟨a, vs, rfl, .inl (.inl h1), flat_rv rx q1, flats_rv h2 q2, by rw [any_rv rx q1 h2 q2]; exact h.ret rs mk_bl⟩
    · exact False.elim h
  · exact False.elim h
theorem om_inF : OpM X (compareOp .In) (gInF false) := ⟨_, op_in_seq, fun _ _ _ _ _ _ _ rs rx ry h => inF_of rs rx ry h⟩
theorem om_notInF : OpM X (compareOp .NotIn) (gInF true) := ⟨_, op_notIn_seq, fun _ _ _ _ _ _ _ rs rx ry h => inF_of rs rx ry h⟩
theorem one_sign {a : Str} {c : Nat} (h : a.cps.toList = [c]) : a = ⟨#[c]⟩ := by
  obtain ⟨⟨l⟩⟩ := a
  simp only at h
  rw [h]
theorem om_inS : OpM X (compareOp .In) (gInS false) := by
  refine ⟨_, op_in_sign, fun s x y v u E Q rs rx ry h => ?_⟩
  unfold gInS at h
  split at h
  · split at h
    · rename_i c e
      rw [rv_str rx, rv_str ry, one_sign e]
      exact ⟨c, _, rfl, rfl, h.ret rs mk_bl⟩
    · exact False.elim h
  · exact False.elim h
theorem om_notInS : OpM X (compareOp .NotIn) (gInS true) := by
  refine ⟨_, op_notIn_sign, fun s x y v u E Q rs rx ry h => ?_⟩
  unfold gInS at h
  split at h
  · split at h
    · rename_i c e
      rw [rv_str rx, rv_str ry, one_sign e]
      exact ⟨c, _, rfl, rfl, h.ret rs mk_bl⟩
    · exact False.elim h
  · exact False.elim h
theorem isN_rv {K : PySem.W.Frag} {s : Sg} {x : IV} {v : V} (h : RV K s x v) : decide (v = .non) = isN x := by
  cases x with
  | non => rw [rv_non h]; rfl
  | bl b => rw [rv_bl h]; rfl
  | int i => rw [rv_int h]; rfl
  | str z => rw [rv_str h]; rfl
  | ty n => simp only [Rv] at h; rw [h]; rfl
  | glo n => simp only [Rv] at h; rw [h]; rfl
  | ref n => obtain ⟨a, rfl, _⟩ := rv_ref h; rfl
  | tup xs => obtain ⟨a, _, rfl, _⟩ := rv_tup h; rfl
  | lst xs => obtain ⟨a, _, rfl, _⟩ := rv_lst h; rfl
  | scr xs => obtain ⟨a, _, rfl, _⟩ := rv_scr h; rfl
  | dic ks vs => simp only [Rv] at h; obtain ⟨a, rfl, _⟩ := h; rfl
  | ins C ns vs => simp only [Rv] at h; obtain ⟨a, _, _, rfl, _⟩ := h; rfl
  | err C x => simp only [Rv] at h; obtain ⟨a, _, _, rfl, _⟩ := h; rfl
theorem om_is : OpM X (compareOp .Is) gIs := by
  refine ⟨_, op_isN, fun s x y v u E Q rs rx ry h => ?_⟩
  unfold gIs at h
  split at h
  · rw [rv_non ry]
    refine ⟨rfl, ?_⟩
    rw [isN_rv rx]
    exact h.ret rs mk_bl
  · exact False.elim h
theorem om_isNot : OpM X (compareOp .IsNot) gIsNot := by
  refine ⟨_, op_notN, fun s x y v u E Q rs rx ry h => ?_⟩
  unfold gIsNot at h
  split at h
  · rw [rv_non ry]
    refine ⟨rfl, ?_⟩
    rw [isN_rv rx]
    exact h.ret rs mk_bl
  · exact False.elim h
end

/-! ### tests -/
section
variable (K : PySem.W.Frag)
def AfterB (E : XK) (s : Sg) (r : Res) (Q : Bool → Hp → Prop) : Prop := match r with
  | .ok (.bl b) h => ∀ s', Ext s s' → RS K s' → s'.h = h → Q b s'.H
  | .exc C x h => ∀ s', Ext s s' → RS K s' → s'.h = h → ErrAt K s' C x E
  | _ => False
def TT_ (W : WX) (m : EM) : TT := fun σ H Q => ∃ (s : Sg) (ρ : Env_), s.H = H ∧ RS K s ∧ RE K s ρ σ ∧ AfterB K (fun c d H => W c d σ H) s (m ρ s.h) Q
end
section
variable {K : PySem.W.Frag} {s s1 : Sg} {W : WX} {σ : L2.St} {ρ : Env_}
theorem AfterB.ext {E : XK} {r : Res} {Q : Bool → Hp → Prop} (e : Ext s s1) (h : AfterB K E s r Q) : AfterB K E s1 r Q := by
  cases r with
  | ok x h' =>
    cases x with
    | bl b => exact fun s' e2 r2 eh => h s' (e.trans e2) r2 eh
    | _ => exact False.elim h
  | exc C x h' => exact fun s' e2 r2 eh => h s' (e.trans e2) r2 eh
  | stuck => exact h
theorem AfterB.after {E : XK} {r : Res} {Q : Bool → Hp → Prop} (h : AfterB K E s r Q) : After K E s r fun v H => ∃ k, v = .bl k ∧ Q k H := by
  cases r with
  | ok x h' =>
    cases x with
    | bl b => exact fun s' v e2 r2 eh rv => ⟨b, rv_bl rv, h s' e2 r2 eh⟩
    | _ => exact False.elim h
  | exc C x h' => exact h
  | stuck => exact h
theorem TT_.t {m : EM} {H : Hp} {Q : Bool → Hp → Prop} (h : TT_ K W m σ H Q) : T K W m σ H fun v H => ∃ k, v = .bl k ∧ Q k H := by
  obtain ⟨s, ρ, eh, rs, re, h⟩ := h
  exact ⟨s, ρ, eh, rs, re, h.after⟩
structure NxtB (K : PySem.W.Frag) (s : Sg) (ρ : Env_) (σ : L2.St) (s1 : Sg) : Prop where
  ext : Ext s s1
  rs : RS K s1
  re : RE K s1 ρ σ
theorem TT_.of {m : EM} {Q : Bool → Hp → Prop} (rs : RS K s) (re : RE K s ρ σ) (h : AfterB K (fun c d H => W c d σ H) s (m ρ s.h) Q) : TT_ K W m σ s.H Q := ⟨s, ρ, rfl, rs, re, h⟩
/-- a test, then what follows -/
def Res.bindB (r : Res) (f : Bool → List Cell → Res) : Res := r.bind fun x h => match x with
  | .bl b => f b h
  | _ => .stuck
theorem TT_.bind {m : EM} {f : Bool → List Cell → Res} {Q : VK} {R : Bool → Hp → Prop} (rs : RS K s) (re : RE K s ρ σ)
    (h : After K (fun c d H => W c d σ H) s ((m ρ s.h).bindB f) Q)
    (k : ∀ b s1, NxtB K s ρ σ s1 → After K (fun c d H => W c d σ H) s1 (f b s1.h) Q → R b s1.H) : TT_ K W m σ s.H R := by
  refine .of rs re ?_
  cases e : m ρ s.h with
  | ok x h1 =>
    rw [e] at h
    cases x with
    | bl b => exact fun s' e2 r2 eh => k b s' ⟨e2, r2, re.ext e2⟩ (by rw [eh]; exact After.ext e2 h)
    | _ => exact False.elim h
  | exc C x h1 =>
    rw [e] at h
    exact h
  | stuck =>
    rw [e] at h
    exact h
theorem TT_.bindB {m : EM} {f : Bool → List Cell → Res} {Q : Bool → Hp → Prop} {R : Bool → Hp → Prop} (rs : RS K s) (re : RE K s ρ σ)
    (h : AfterB K (fun c d H => W c d σ H) s ((m ρ s.h).bindB f) Q)
    (k : ∀ b s1, NxtB K s ρ σ s1 → AfterB K (fun c d H => W c d σ H) s1 (f b s1.h) Q → R b s1.H) : TT_ K W m σ s.H R := by
  refine .of rs re ?_
  cases e : m ρ s.h with
  | ok x h1 =>
    rw [e] at h
    cases x with
    | bl b => exact fun s' e2 r2 eh => k b s' ⟨e2, r2, re.ext e2⟩ (by rw [eh]; exact AfterB.ext e2 h)
    | _ => exact False.elim h
  | exc C x h1 =>
    rw [e] at h
    exact h
  | stuck =>
    rw [e] at h
    exact h
def Res.bindBS (r : Res) (ρ : Env_) (f : Bool → List Cell → ResS) : ResS := r.bindS ρ fun x h => match x with
  | .bl b => f b h
  | _ => .stuck
theorem TT_.bindS {m : EM} {f : Bool → List Cell → ResS} {D : Ends} {R : Bool → Hp → Prop} (rs : RS K s) (re : RE K s ρ σ)
    (h : AfterS K W s ((m ρ s.h).bindBS ρ f) D)
    (k : ∀ b s1, NxtB K s ρ σ s1 → AfterS K W s1 (f b s1.h) D → R b s1.H) : TT_ K W m σ s.H R := by
  refine .of rs re ?_
  cases e : m ρ s.h with
  | ok x h1 =>
    rw [e] at h
    cases x with
    | bl b => exact fun s' e2 r2 eh => k b s' ⟨e2, r2, re.ext e2⟩ (by rw [eh]; exact AfterS.ext e2 h)
    | _ => exact False.elim h
  | exc C x h1 =>
    rw [e] at h
    exact fun s' e2 r2 eh => h s' σ e2 r2 eh (re.ext e2)
  | stuck =>
    rw [e] at h
    exact h
theorem AfterB.ret {E : XK} {b : Bool} {Q : Bool → Hp → Prop} (h : AfterB K E s (.ok (.bl b) s.h) Q) (rs : RS K s) : Q b s.H := h s (Ext.refl s) rs rfl
end
def eChain (g g' : M2) (a b c : EM) : EM := fun ρ h => (a ρ h).bind fun x h1 => (b ρ h1).bind fun y h2 => (g x y h2).bindB fun k h3 => if k = true then (c ρ h3).bind fun z h4 => g' y z h4 else .ok (.bl false) h3
def eAnd (a b : EM) : EM := fun ρ h => (a ρ h).bindB fun k h1 => if k = true then b ρ h1 else .ok (.bl false) h1
def eOr (a b : EM) : EM := fun ρ h => (a ρ h).bindB fun k h1 => if k = true then .ok (.bl true) h1 else b ρ h1
def eNot (a : EM) : EM := fun ρ h => (a ρ h).bindB fun k h1 => .ok (.bl (!k)) h1
def eIf (c a b : EM) : EM := fun ρ h => (c ρ h).bindB fun k h1 => if k = true then a ρ h1 else b ρ h1
/-- a value's truth -/
def truI (x : IV) (h : List Cell) : Option Bool := match x with
  | .non => some false
  | .bl b => some b
  | .int i => some (i != 0)
  | .str z => if z.length ≤ sizeLine then some ((z.length : Int) != 0) else none
  | .tup xs => some (!xs.isEmpty)
  | x => (asL x h).map fun xs => !xs.isEmpty
theorem emptyI {xs : List IV} {vs : List V} (h : xs.length = vs.length) : (!xs.isEmpty) = !vs.isEmpty := by
  cases vs with
  | nil =>
    cases xs with
    | nil => rfl
    | cons x xs => simp at h
  | cons v vs =>
    cases xs with
    | nil => simp at h
    | cons x xs => rfl
def eTruth (a : EM) : EM := fun ρ h => (a ρ h).bind fun x h1 => match truI x h1 with
  | some b => .ok (.bl b) h1
  | none => .stuck
section
variable {X : Cx} {W : WX} {a b c : Expr} {rest : List Expr} {ma mb mc : EM} {pos : Pos}
theorem st_val (he : PE X a (T X.K W ma)) (hi : ∀ whole, isTrue a X.env whole = (do let v ← whole; standAt a.pos; holding [v] (truthy v)) := by intro _; rfl) : PT X a (TT_ X.K W ma) :=
  (pt_val he hi).imp fun _ _ _ h => h.t
theorem st_cmp {op : CmpOp} {g : M2} (o : OpM X (compareOp op) g) (ha : PE X a (T X.K W ma)) (hb : PE X b (T X.K W mb)) (hm : behindInMarks op b = false := by first | exact nomark _ | rfl) : PT X (.Compare a [op] [b] pos) (TT_ X.K W (eBin g ma mb)) := by
  obtain ⟨r, ho, hr⟩ := o
  exact (pt_cmpR ho ha hb hm).imp fun _ _ _ h => T.bin hr h.t
theorem chain_of {op op' : CmpOp} {g g' : M2} {r r' : R2} (hr : ∀ (s : Sg) (x y : IV) (v u : V) (E : XK) (Q : VK), RS X.K s → RV X.K s x v → RV X.K s y u → After X.K E s (g x y s.h) Q → r v u s.H Q)
    (hr' : ∀ (s : Sg) (x y : IV) (v u : V) (E : XK) (Q : VK), RS X.K s → RV X.K s x v → RV X.K s y u → After X.K E s (g' x y s.h) Q → r' v u s.H Q) {σ : L2.St} {H : Hp} {Q : VK}
    (h : T X.K W (eChain g g' ma mb mc) σ H Q) : tChain r r' (T X.K W ma) (T X.K W mb) (T X.K W mc) σ H Q := by
  obtain ⟨s, ρ, eh, rs, re, h⟩ := h
  subst eh
  refine T.bind rs re h fun x s1 v n1 h1 => ?_
  refine T.bind n1.rs n1.re h1 fun y s2 u n2 h2 => ?_
  refine hr s2 x y v u (fun c d H => W c d σ H) _ n2.rs (n1.rv.ext n2.ext) n2.rv ?_
  revert h2
  cases g x y s2.h with
  | stuck => exact fun h => h.elim
  | exc C z h' => exact fun h => h
  | ok z h' =>
    cases z with
    | bl k =>
      intro h s3 w e3 r3 eh3 rv3
      refine ⟨k, rv_bl rv3, ?_⟩
      have h3 : After X.K (fun c d H => W c d σ H) s3 (if k = true then (mc ρ h').bind fun z h4 => g' y z h4 else .ok (.bl false) h') Q := After.ext e3 h
      rw [← eh3] at h3
      cases k with
      | true =>
        rw [if_pos rfl] at h3 ⊢
        refine T.bind r3 (n2.re.ext e3) h3 fun z s4 w n4 h4 => ?_
        exact hr' s4 y z u w _ Q n4.rs ((n2.rv.ext e3).ext n4.ext) n4.rv h4
      | false =>
        rw [if_neg Bool.false_ne_true] at h3 ⊢
        exact h3.ret r3 mk_bl
    | _ => exact fun h => h.elim
theorem se_chain {op op' : CmpOp} {g g' : M2} (o : OpM X (compareOp op) g) (o' : OpM X (compareOp op') g') (ha : PE X a (T X.K W ma)) (hb : PE X b (T X.K W mb)) (hc : PE X c (T X.K W mc))
    (hm : lastMarks [op, op'] [b, c] = false := by with_unfolding_all rfl) : PE X (.Compare a [op, op'] [b, c] pos) (T X.K W (eChain g g' ma mb mc)) := by
  obtain ⟨r, ho, hr⟩ := o
  obtain ⟨r', ho', hr'⟩ := o'
  exact (pe_chain ho ho' ha hb hc hm).imp fun _ _ _ h => chain_of (op := op) (op' := op') hr hr' h
theorem st_chain {op op' : CmpOp} {g g' : M2} (o : OpM X (compareOp op) g) (o' : OpM X (compareOp op') g') (ha : PE X a (T X.K W ma)) (hb : PE X b (T X.K W mb)) (hc : PE X c (T X.K W mc))
    (hm : lastMarks [op, op'] [b, c] = false := by with_unfolding_all rfl) : PT X (.Compare a [op, op'] [b, c] pos) (TT_ X.K W (eChain g g' ma mb mc)) := by
  obtain ⟨r, ho, hr⟩ := o
  obtain ⟨r', ho', hr'⟩ := o'
  exact (pt_chain ho ho' ha hb hc hm).imp fun _ _ _ h => chain_of (op := op) (op' := op') hr hr' h.t
/-! and, or, not as tests -/
theorem sw_and1 (ha : PT X a (TT_ X.K W ma)) : PW X (.BoolOp .And [a] pos) (TT_ X.K W ma) := pw_and1 ha
theorem sw_or1 (ha : PT X a (TT_ X.K W ma)) : PW X (.BoolOp .Or [a] pos) (TT_ X.K W ma) := pw_or1 ha
theorem and_of {σ : L2.St} {H : Hp} {Q : Bool → Hp → Prop} (h : TT_ X.K W (eAnd ma mb) σ H Q) : tAnd (TT_ X.K W ma) (TT_ X.K W mb) σ H Q := by
  obtain ⟨s, ρ, eh, rs, re, h⟩ := h
  subst eh
  refine TT_.bindB rs re h fun k s1 n1 h1 => ?_
  cases k with
  | true =>
    rw [if_pos rfl] at h1 ⊢
    exact TT_.of n1.rs n1.re h1
  | false =>
    rw [if_neg Bool.false_ne_true] at h1 ⊢
    exact h1.ret n1.rs
theorem or_of {σ : L2.St} {H : Hp} {Q : Bool → Hp → Prop} (h : TT_ X.K W (eOr ma mb) σ H Q) : tOr (TT_ X.K W ma) (TT_ X.K W mb) σ H Q := by
  obtain ⟨s, ρ, eh, rs, re, h⟩ := h
  subst eh
  refine TT_.bindB rs re h fun k s1 n1 h1 => ?_
  cases k with
  | true =>
    rw [if_pos rfl] at h1 ⊢
    exact h1.ret n1.rs
  | false =>
    rw [if_neg Bool.false_ne_true] at h1 ⊢
    exact TT_.of n1.rs n1.re h1
theorem PW.imp {t t' : TT} (h : PW X a t) (i : ∀ σ H Q, t' σ H Q → t σ H Q) : PW X a t' := ⟨fun wh pins s σ H Q I q => h.run wh pins s σ H Q I (i _ _ _ q)⟩
theorem sw_and (ha : PT X a (TT_ X.K W ma)) (hb : PW X (.BoolOp .And (b :: rest) pos) (TT_ X.K W mb)) : PW X (.BoolOp .And (a :: b :: rest) pos) (TT_ X.K W (eAnd ma mb)) := PW.imp (pw_and ha hb) fun _ _ _ h => and_of h
theorem sw_or (ha : PT X a (TT_ X.K W ma)) (hb : PW X (.BoolOp .Or (b :: rest) pos) (TT_ X.K W mb)) : PW X (.BoolOp .Or (a :: b :: rest) pos) (TT_ X.K W (eOr ma mb)) := PW.imp (pw_or ha hb) fun _ _ _ h => or_of h
theorem st_not (ha : PT X a (TT_ X.K W ma)) : PT X (.UnaryOp .Not a pos) (TT_ X.K W (eNot ma)) := (pt_not ha).imp fun σ H Q ⟨s, ρ, eh, rs, re, h⟩ => by
  subst eh
  exact TT_.bindB rs re h fun k s1 n1 h1 => h1.ret n1.rs
theorem st_truth (he : PE X a (T X.K W ma)) (hi : ∀ whole, isTrue a X.env whole = (do let v ← whole; standAt a.pos; holding [v] (truthy v)) := by intro _; rfl) : PT X a (TT_ X.K W (eTruth ma)) :=
  (pt_truth he hi).imp fun σ H Q ⟨s, ρ, eh, rs, re, h⟩ => by
    subst eh
    refine T.bind rs re h.after fun x s1 v n1 h1 => ?_
    split at h1
    · rename_i k e
      obtain ⟨k', e', q⟩ := h1.ret n1.rs mk_bl
      have ek : k = k' := by cases e'; rfl
      subst ek
      refine ⟨k, ?_, q⟩
      have rx := n1.rv
      unfold truI at e
      split at e
      · cases e
        rw [rv_non rx]
        rfl
      · cases e
        rw [rv_bl rx]
        rfl
      · cases e
        rw [rv_int rx]
        rfl
      · split at e
        · rename_i z hz
          cases e
          rw [rv_str rx]
          exact ⟨hz, rfl⟩
        · cases e
      · cases e
        obtain ⟨a, vs, rfl, h1, h2⟩ := rv_tup rx
        refine .inr (.inl ⟨vs, h1, ?_⟩)
        exact emptyI (Rvs.length_ h2)
      · obtain ⟨xs, e1, e2⟩ := Option.map_eq_some_iff.mp e
        obtain ⟨a, vs, rfl, h1, h2⟩ := asL_rv n1.rs rx e1
        refine .inl ⟨vs, .inl h1, ?_⟩
        rw [← e2]
        exact emptyI (Rvs.length_ h2)
    · exact False.elim h1
/-! .. as values -/
theorem se_one {op} (h : PE X a (T X.K W ma)) : PE X (.BoolOp op [a] pos) (T X.K W ma) := pe_one h
theorem T.tt {m : EM} {f : Bool → List Cell → Res} {s : Sg} {ρ : Env_} {σ : L2.St} {Q : VK} {R : VK} (rs : RS X.K s) (re : RE X.K s ρ σ) (h : After X.K (fun c d H => W c d σ H) s ((m ρ s.h).bindB f) Q)
    (k : ∀ b s1, NxtB X.K s ρ σ s1 → After X.K (fun c d H => W c d σ H) s1 (f b s1.h) Q → R (.bl b) s1.H) : T X.K W m σ s.H R := by
  obtain ⟨s', ρ', eh, rs', re', q⟩ := TT_.bind (R := fun b H => R (.bl b) H) rs re h k
  refine ⟨s', ρ', eh, rs', re', q.after.imp fun v H ⟨k, e, z⟩ => ?_⟩
  rw [e]
  exact z
theorem se_and (ha : PE X a (T X.K W ma)) (hb : PE X (.BoolOp .And (b :: rest) pos) (T X.K W mb)) : PE X (.BoolOp .And (a :: b :: rest) pos) (T X.K W (eAnd ma mb)) :=
  (pe_and ha hb).imp fun σ H Q ⟨s, ρ, eh, rs, re, h⟩ => by
    subst eh
    refine T.tt rs re h fun k s1 n1 h1 => ⟨k, rfl, ?_⟩
    cases k with
    | true =>
      rw [if_pos rfl] at h1 ⊢
      exact T.of n1.rs n1.re h1
    | false =>
      rw [if_neg Bool.false_ne_true] at h1 ⊢
      exact h1.ret n1.rs mk_bl
theorem se_or (ha : PE X a (T X.K W ma)) (hb : PE X (.BoolOp .Or (b :: rest) pos) (T X.K W mb)) : PE X (.BoolOp .Or (a :: b :: rest) pos) (T X.K W (eOr ma mb)) :=
  (pe_or ha hb).imp fun σ H Q ⟨s, ρ, eh, rs, re, h⟩ => by
    subst eh
    refine T.tt rs re h fun k s1 n1 h1 => ⟨k, rfl, ?_⟩
    cases k with
    | true =>
      rw [if_pos rfl] at h1 ⊢
      exact h1.ret n1.rs mk_bl
    | false =>
      rw [if_neg Bool.false_ne_true] at h1 ⊢
      exact T.of n1.rs n1.re h1
theorem se_not (ha : PE X a (T X.K W ma)) : PE X (.UnaryOp .Not a pos) (T X.K W (eNot ma)) :=
  (pe_not ha).imp fun σ H Q ⟨s, ρ, eh, rs, re, h⟩ => by
    subst eh
    exact T.tt rs re h fun k s1 n1 h1 => ⟨k, rfl, h1.ret n1.rs mk_bl⟩
theorem se_if (hc : PT X c (TT_ X.K W mc)) (ha : PE X a (T X.K W ma)) (hb : PE X b (T X.K W mb)) : PE X (.IfExp c a b pos) (T X.K W (eIf mc ma mb)) :=
  (pe_ifExp hc ha hb).imp fun σ H Q ⟨s, ρ, eh, rs, re, h⟩ => by
    subst eh
    refine TT_.bind rs re h fun k s1 n1 h1 => ?_
    cases k with
    | true =>
      rw [if_pos rfl] at h1 ⊢
      exact T.of n1.rs n1.re h1
    | false =>
      rw [if_neg Bool.false_ne_true] at h1 ⊢
      exact T.of n1.rs n1.re h1
end

/-! ### displays -/
def eTup (a : AM) : EM := fun ρ h => (a ρ h).bind fun xs h1 => if xs.length ≤ sizeLine then .ok (.tup xs) h1 else .stuck
/-- a list that never changes -/
def eLst (a : AM) : EM := fun ρ h => (a ρ h).bind fun xs h1 => if xs.length ≤ sizeLine then .ok (.lst xs) h1 else .stuck
/-- a list that may change: a new cell -/
def eLstC (a : AM) : EM := fun ρ h => (a ρ h).bind fun xs h1 => if xs.length ≤ sizeLine then .ok (.ref h1.length) (h1 ++ [.lst xs]) else .stuck
section
variable {X : Cx} {W : WX} {es : List Expr} {ma : AM} {pos : Pos}
theorem se_tup {x1} (h : PA X es (TA_ X.K W ma)) : PE X (.Tuple es x1 pos) (T X.K W (eTup ma)) := (pe_tup h).imp fun σ H Q ⟨s, ρ, eh, rs, re, h⟩ => by
  subst eh
  refine TA_.bind rs re h fun xs s1 vs n h1 => ?_
  split at h1
  · rename_i q
    exact ⟨by rw [← Rvs.length_ n.rv]; exact q, fun p hp => h1.put n.rs hp (mk_tup (Fz.put n.rs hp) (n.rv.ext (Ext.put n.rs hp)))⟩
  · exact False.elim h1
theorem se_lst (h : PA X es (TA_ X.K W ma)) : PE X (.List es pos) (T X.K W (eLst ma)) := (pe_lst h).imp fun σ H Q ⟨s, ρ, eh, rs, re, h⟩ => by
  subst eh
  refine TA_.bind rs re h fun xs s1 vs n h1 => ?_
  split at h1
  · rename_i q
    exact ⟨by rw [← Rvs.length_ n.rv]; exact q, fun p hp => h1.put n.rs hp (mk_lst (Fz.put n.rs hp) (n.rv.ext (Ext.put n.rs hp)))⟩
  · exact False.elim h1
/-- a new cell -/
theorem After.new {K : PySem.W.Frag} {s : Sg} {E : XK} {c : Cell} {p : Addr} {o : HO} {Q : VK} (h : After K E s (.ok (.ref s.h.length) (s.h ++ [c])) Q) (rs : RS K s) (hp : s.H p = none) (hc : RO K (s.new p o c) c (some o)) : Q (.ref p) (upd s.H p o) :=
  h (s.new p o c) (.ref p) (Ext.new rs hp) (rs.new hp hc) rfl (mk_ref (At.new rs))
theorem se_lstC (h : PA X es (TA_ X.K W ma)) : PE X (.List es pos) (T X.K W (eLstC ma)) := (pe_lst h).imp fun σ H Q ⟨s, ρ, eh, rs, re, h⟩ => by
  subst eh
  refine TA_.bind rs re h fun xs s1 vs n h1 => ?_
  split at h1
  · rename_i q
    exact ⟨by rw [← Rvs.length_ n.rv]; exact q, fun p hp => h1.new n.rs hp ⟨vs, rfl, n.rv.ext (Ext.new n.rs hp)⟩⟩
  · exact False.elim h1
end

/-! ### subscripts, slices -/
def gIx : M2 := fun x y h => match x, y with
  | .str z, .int i => if z.length ≤ sizeLine then (match atI z.cps.toList i with
    | some c => .ok (.str ⟨#[c]⟩) h
    | none => .stuck) else .stuck
  | x, .int i => (match asT x, asR x h with
    | some xs, _ => (match atI xs i with
      | some y => .ok y h
      | none => .stuck)
    | none, some xs => (match atI xs i with
      | some y => .ok y h
      | none => .stuck)
    | _, _ => .stuck)
  | _, _ => .stuck
theorem Rvs.atI {K : PySem.W.Frag} {s : Sg} {xs : List IV} {vs : List V} {i : Int} {y : IV} (h : RVs K s xs vs) (e : L2.atI xs i = some y) : ∃ v, L2.atI vs i = some v ∧ RV K s y v := by
  unfold L2.atI at e ⊢
  rw [← Rvs.length_ h]
  cases q : ixN xs.length i with
  | none =>
    rw [q] at e
    cases e
  | some j =>
    rw [q] at e
    exact Rvs.at_ h e
section
variable {X : Cx} {W : WX} {a b : Expr} {ma mb : EM} {pos : Pos}
theorem ix_M : IxR X (rIx X.K) := by
  intro value slice pins s σ H x y v u Q I rx ry h hs
  rcases h with h | h | h
  · exact ix_list value slice pins s σ H x y v u Q I rx ry h hs
  · exact ix_tup value slice pins s σ H x y v u Q I rx ry h hs
  · exact ix_str value slice pins s σ H x y v u Q I rx ry h hs
theorem se_ix (ha : PE X a (T X.K W ma)) (hb : PE X b (T X.K W mb)) (hs : PlainIx b := by exact fun _ _ => rfl) : PE X (.Subscript a b pos) (T X.K W (eBin gIx ma mb)) :=
  (pe_ix ix_M ha hb hs).imp fun _ _ _ h => T.bin (fun s x y v u E Q rs rx ry h => by
    unfold gIx at h
    split at h
    · split at h
      · rename_i q
        split at h
        · rename_i c e
          rw [rv_str rx, rv_int ry]
          exact .inr (.inr ⟨_, _, c, rfl, rfl, q, e, h.ret rs mk_str⟩)
        · exact False.elim h
      · exact False.elim h
    · rw [rv_int ry]
      split at h
      · rename_i e1
        split at h
        · rename_i e2
          obtain ⟨a, vs, rfl, h1, h2⟩ := asT_rv rx e1
          obtain ⟨v, q1, q2⟩ := h2.atI e2
          exact .inr (.inl ⟨a, vs, _, v, rfl, rfl, h1, q1, h.ret rs q2⟩)
        · exact False.elim h
      · rename_i e1
        split at h
        · rename_i e2
          obtain ⟨a, vs, rfl, h1, h2⟩ := asR_rv rs rx e1
          obtain ⟨v, q1, q2⟩ := h2.atI e2
          exact .inl ⟨a, vs, _, v, rfl, rfl, h1, q1, h.ret rs q2⟩
        · exact False.elim h
      · exact False.elim h
    · exact False.elim h) h
end
def cutI (xs : List IV) (lo hi : Option Int) : List IV := (xs.drop (HT.sIx xs.length 0 lo)).take (HT.sIx xs.length xs.length hi - HT.sIx xs.length 0 lo)
def gSl (x : IV) (lo hi : Option Int) (h : List Cell) : Res := match x with
  | .str z => if z.length ≤ sizeLine then .ok (.str (cutS z lo hi)) h else .stuck
  | .tup xs => .ok (.tup (cutI xs lo hi)) h
  | x => (match asR x h with
    | some xs => .ok (.lst (cutI xs lo hi)) h
    | none => .stuck)
/-- a slice's part: left out, or an int -/
def partM (l : Option EM) (ρ : Env_) (h : List Cell) (f : Option Int → List Cell → Res) : Res := match l with
  | none => f none h
  | some m => (m ρ h).bind fun x h1 => match x with
    | .int i => f (some i) h1
    | _ => .stuck
def eSl (a : EM) (l u : Option EM) : EM := fun ρ h => (a ρ h).bind fun x h1 => partM l ρ h1 fun lo h2 => partM u ρ h2 fun hi h3 => gSl x lo hi h3
section
variable {X : Cx} {W : WX} {a : Expr} {lo hi : Option Expr} {ma : EM} {ml mu : Option EM} {pos p2 : Pos}
def TO_ (K : PySem.W.Frag) (W : WX) : Option EM → TO
  | none => tNoPart
  | some m => tPart (T K W m)
theorem so_none : PO X none (TO_ X.K W none) := po_none
theorem so_some {e : Expr} {m : EM} (h : PE X e (T X.K W m)) : PO X (some e) (TO_ X.K W (some m)) := po_some h
theorem TO_.bind {K : PySem.W.Frag} {l : Option EM} {s : Sg} {ρ : Env_} {σ : L2.St} {f : Option Int → List Cell → Res} {Q : VK} {R : Option Int → Hp → Prop} (rs : RS K s) (re : RE K s ρ σ)
    (h : After K (fun c d H => W c d σ H) s (partM l ρ s.h f) Q) (k : ∀ o s1, NxtB K s ρ σ s1 → After K (fun c d H => W c d σ H) s1 (f o s1.h) Q → R o s1.H) : TO_ K W l σ s.H R := by
  cases l with
  | none => exact k none s ⟨Ext.refl s, rs, re⟩ h
  | some m =>
    refine T.bind rs re h fun x s1 v n1 h1 => ?_
    cases x with
    | int i => exact ⟨i, rv_int n1.rv, k (some i) s1 ⟨n1.ext, n1.rs, n1.re⟩ h1⟩
    | _ => exact False.elim h1
theorem sl_M : SlR X (fun x lo hi H Q => rSlS x lo hi H Q ∨ (rSlA X.K x lo hi H Q ∨ rSlL X.K x lo hi H Q)) := SlR.or sl_str (SlR.or sl_tupA sl_list)
theorem Rvs.cut {K : PySem.W.Frag} {s : Sg} {xs : List IV} {vs : List V} {lo hi : Option Int} (h : RVs K s xs vs) : RVs K s (cutI xs lo hi) (cutV vs lo hi) := by
  unfold cutI cutV
  rw [← Rvs.length_ h]
  exact Rvs.take_ _ (Rvs.drop_ _ h)
theorem gSl_of {s : Sg} {x : IV} {v : V} {lo hi : Option Int} {E : XK} {Q : VK} (rs : RS X.K s) (rx : RV X.K s x v) (h : After X.K E s (gSl x lo hi s.h) Q) : rSlS v lo hi s.H Q ∨ (rSlA X.K v lo hi s.H Q ∨ rSlL X.K v lo hi s.H Q) := by
  unfold gSl at h
  split at h
  · split at h
    · rename_i q
      rw [rv_str rx]
      exact .inl ⟨_, rfl, q, h.ret rs mk_str⟩
    · exact False.elim h
  · rename_i xs
    obtain ⟨a, vs, rfl, h1, h2⟩ := rv_tup rx
    refine .inr (.inl ⟨a, vs, rfl, h1, fun ⟨z1, z2⟩ => ?_, fun _ p hp => h.put rs hp (mk_tup (Fz.put rs hp) (h2.cut.ext (Ext.put rs hp)))⟩)
    refine h.ret rs ?_
    have e : cutI xs lo hi = xs := by
      unfold cutI
      rw [← Rvs.length_ h2] at z1 z2
      rw [z1, z2, List.drop_zero, Nat.sub_zero, List.take_length]
    rw [e]
    exact rx
  · split at h
    · rename_i e
      obtain ⟨a, vs, rfl, h1, h2⟩ := asR_rv rs rx e
      exact .inr (.inr ⟨a, vs, rfl, h1, fun p hp => h.put rs hp (mk_lst (Fz.put rs hp) (h2.cut.ext (Ext.put rs hp)))⟩)
    · exact False.elim h
theorem se_sl (ha : PE X a (T X.K W ma)) (hl : PO X lo (TO_ X.K W ml)) (hu : PO X hi (TO_ X.K W mu)) : PE X (.Subscript a (.Slice lo hi none p2) pos) (T X.K W (eSl ma ml mu)) :=
  (pe_slice sl_M ha hl hu).imp fun σ H Q ⟨s, ρ, eh, rs, re, h⟩ => by
    subst eh
    refine T.bind rs re h fun x s1 v n1 h1 => ?_
    refine TO_.bind n1.rs n1.re h1 fun o1 s2 n2 h2 => ?_
    refine TO_.bind n2.rs n2.re h2 fun o2 s3 n3 h3 => ?_
    exact gSl_of n3.rs ((n1.rv.ext n2.ext).ext n3.ext) h3
end
end Mp

set_option maxHeartbeats 4000000
/-! Mp4: statements, targets, for, while, list comprehensions. -/
namespace Mp
open PySem PySem.Spec PyProof.Rows L2

/-! ### statements -/
def sNext : SM := fun ρ h => .nx ρ h
def sSeq (a b : SM) : SM := fun ρ h => (a ρ h).bind b
def sIf (c : EM) (a b : SM) : SM := fun ρ h => (c ρ h).bindBS ρ fun k h1 => if k = true then a ρ h1 else b ρ h1
def sRet (e : EM) : SM := fun ρ h => (e ρ h).bindS ρ fun x h1 => .rt x h1
def sExpr (e : EM) : SM := fun ρ h => (e ρ h).bindS ρ fun _ h1 => .nx ρ h1
def sBreak : SM := fun ρ h => .bk ρ h
def sCont : SM := fun ρ h => .ct ρ h
section
variable {X : Cx} {W : WX} {st : Stmt} {rest : List Stmt} {m m' : SM} {e c : Expr} {me mc : EM} {pos : Pos} {sa sb : List Stmt}
theorem ss_nil : PSs X [] (TS_ X.K W sNext) := PSs.imp pss_nil fun D σ H ⟨s, ρ, eh, rs, re, h⟩ => by
  subst eh
  exact h s σ (Ext.refl s) rs rfl re
theorem ss_pass {pos} : PS X (.Pass pos) (TS_ X.K W sNext) := PS.imp ps_pass fun D σ H ⟨s, ρ, eh, rs, re, h⟩ => by
  subst eh
  exact h s σ (Ext.refl s) rs rfl re
theorem ss_break {pos} : PS X (.Break pos) (TS_ X.K W sBreak) := PS.imp ps_break fun D σ H ⟨s, ρ, eh, rs, re, h⟩ => by
  subst eh
  exact h s σ (Ext.refl s) rs rfl re
theorem ss_continue {pos} : PS X (.Continue pos) (TS_ X.K W sCont) := PS.imp ps_continue fun D σ H ⟨s, ρ, eh, rs, re, h⟩ => by
  subst eh
  exact h s σ (Ext.refl s) rs rfl re
theorem seq_of {D : Ends} {σ : L2.St} {H : Hp} (h : TS_ X.K W (sSeq m m') D σ H) : tSeq (TS_ X.K W m) (TS_ X.K W m') D σ H := by
  obtain ⟨s, ρ, eh, rs, re, h⟩ := h
  subst eh
  refine TS_.of rs re ?_
  unfold sSeq ResS.bind at h
  revert h
  cases m ρ s.h with
  | nx ρ1 h1 =>
    intro h s' σ' e2 r2 eh re2
    have h' : AfterS X.K W s (m' ρ1 h1) D := h
    rw [← eh] at h'
    exact TS_.of r2 re2 (AfterS.ext e2 h')
  | bk ρ1 h1 => exact fun h => h
  | ct ρ1 h1 => exact fun h => h
  | rt x h1 => exact fun h => h
  | exc C x ρ1 h1 => exact fun h => h
  | stuck => exact fun h => h
theorem ss_cons (h1 : PS X st (TS_ X.K W m)) (h2 : PSs X rest (TS_ X.K W m')) : PSs X (st :: rest) (TS_ X.K W (sSeq m m')) := PSs.imp (pss_cons h1 h2) fun D σ H h => seq_of h
theorem ss_one (h1 : PS X st (TS_ X.K W m)) : PSs X [st] (TS_ X.K W m) := pss_one h1
theorem ss_if (hc : PT X c (TT_ X.K W mc)) (ha : PSs X sa (TS_ X.K W m)) (hb : PSs X sb (TS_ X.K W m')) : PS X (.If c sa sb pos) (TS_ X.K W (sIf mc m m')) :=
  PS.imp (ps_if hc ha hb) fun D σ H ⟨s, ρ, eh, rs, re, h⟩ => by
    subst eh
    refine TT_.bindS rs re h fun k s1 n1 h1 => ?_
    cases k with
    | true =>
      rw [if_pos rfl] at h1 ⊢
      exact TS_.of n1.rs n1.re h1
    | false =>
      rw [if_neg Bool.false_ne_true] at h1 ⊢
      exact TS_.of n1.rs n1.re h1
theorem AfterS.rt_ {K : PySem.W.Frag} {s : Sg} {x : IV} {v : V} {D : Ends} (h : AfterS K W s (.rt x s.h) D) (rs : RS K s) (rv : RV K s x v) : D.rt v s.H := h s v (Ext.refl s) rs rfl rv
theorem AfterS.nx_ {K : PySem.W.Frag} {s : Sg} {ρ : Env_} {σ : L2.St} {D : Ends} (h : AfterS K W s (.nx ρ s.h) D) (rs : RS K s) (re : RE K s ρ σ) : D.nx σ s.H := h s σ (Ext.refl s) rs rfl re
theorem ss_ret (he : PE X e (T X.K W me)) : PS X (.Return (some e) pos) (TS_ X.K W (sRet me)) := PS.imp (ps_ret he) fun D σ H ⟨s, ρ, eh, rs, re, h⟩ => by
  subst eh
  exact T.bindS rs re h fun x s1 v n1 h1 => h1.rt_ n1.rs n1.rv
theorem ss_retN : PS X (.Return none pos) (TS_ X.K W (sRet (eC .non))) := PS.imp ps_retN fun D σ H ⟨s, ρ, eh, rs, re, h⟩ => by
  subst eh
  exact AfterS.rt_ (x := .non) h rs mk_non
theorem ss_expr (he : PE X e (T X.K W me)) (hs : swapsWith e none pos.line X.env = pure false := by rfl) : PS X (.Expr e pos) (TS_ X.K W (sExpr me)) := PS.imp (ps_expr he hs) fun D σ H ⟨s, ρ, eh, rs, re, h⟩ => by
  subst eh
  exact T.bindS rs re h fun x s1 v n1 h1 => h1.nx_ n1.rs n1.re
/-- a statement that is not reached -/
def sNever : SM := fun _ _ => .stuck
theorem ss_never : PSs X sa (TS_ X.K W sNever) := PSs.imp pss_never fun D σ H ⟨s, ρ, eh, rs, re, h⟩ => h.elim
end

/-! ### targets -/
abbrev GM := IV → SM
/-- only a way on is left of a target's end -/
def onlyNx (r : ResS) : ResS := match r with
  | .nx ρ h => .nx ρ h
  | .exc C x ρ h => .exc C x ρ h
  | _ => .stuck
def TG_ (K : PySem.W.Frag) (W : WX) (g : GM) : TG := fun v σ H Q => ∃ (s : Sg) (ρ : Env_) (x : IV), s.H = H ∧ RS K s ∧ RE K s ρ σ ∧ RV K s x v ∧ AfterS K W s (onlyNx (g x ρ s.h)) { nx := Q, rt := fun _ _ => False }
abbrev GMs := List IV → SM
def gmName (i : Nat) : GM := fun x ρ h => .nx (ρ.set i (some x)) h
def gmNil : GMs := fun xs ρ h => match xs with
  | [] => .nx ρ h
  | _ => .stuck
def gmCons (g : GM) (gs : GMs) : GMs := fun xs ρ h => match xs with
  | x :: xs => (g x ρ h).bind (gs xs)
  | [] => .stuck
def gmTup (n : Nat) (gs : GMs) : GM := fun x ρ h => match asT x with
  | some xs => if xs.length = n then gs xs ρ h else .stuck
  | none => .stuck
section
variable {X : Cx} {W : WX} {tg : Expr} {tgs : List Expr} {g : GM} {gs : GMs} {pos : Pos}
theorem PG.imp {t t' : TG} (h : PG X tg t) (i : ∀ v σ H Q, t' v σ H Q → t v σ H Q) : PG X tg t' := ⟨fun pins s σ H v u Q I r q => h.run pins s σ H v u Q I r (i _ _ _ _ q)⟩
theorem PGs.imp {t t' : TGs} (h : PGs X tgs t) (i : ∀ v σ H Q, t' v σ H Q → t v σ H Q) : PGs X tgs t' := ⟨fun pins s σ H v u Q I r q => h.run pins s σ H v u Q I r (i _ _ _ _ q)⟩
theorem RE.set {K : PySem.W.Frag} {s : Sg} {ρ : Env_} {σ : L2.St} {i : Nat} {x : IV} {v : V} (h : RE K s ρ σ) (rv : RV K s x v) : RE K s (ρ.set i (some x)) (σ.set i (some v)) := by
  refine ⟨by simp [h.len], fun j y hy => ?_⟩
  by_cases hj : j = i
  · subst hj
    by_cases hl : j < ρ.length
    · rw [List.getElem?_set_self hl] at hy
      cases hy
      exact ⟨v, List.getElem?_set_self (by rw [← h.len]; exact hl), rv⟩
    · rw [List.getElem?_eq_none (by simpa using hl)] at hy
      cases hy
  · rw [List.getElem?_set_ne (Ne.symm hj)] at hy
    rw [List.getElem?_set_ne (Ne.symm hj)]
    exact h.at_ j y hy
/-- .. and no other slot than vs changes -/
def AfterG (K : PySem.W.Frag) (W : WX) (s : Sg) (σ0 : L2.St) (vs : List Nat) (r : ResS) (Q : L2.St → Hp → Prop) : Prop := match r with
  | .nx ρ h => ∀ s' σ', Ext s s' → RS K s' → s'.h = h → RE K s' ρ σ' → σ'.length = σ0.length → (∀ i, i ∉ vs → σ'[i]? = σ0[i]?) → Q σ' s'.H
  | .exc C x ρ h => ∀ s' σ', Ext s s' → RS K s' → s'.h = h → RE K s' ρ σ' → ErrAt K s' C x (fun c d H => W c d σ' H)
  | _ => False
def TGv_ (K : PySem.W.Frag) (W : WX) (g : GM) (vs : List Nat) : TG := fun v σ H Q => ∃ (s : Sg) (ρ : Env_) (x : IV), s.H = H ∧ RS K s ∧ RE K s ρ σ ∧ RV K s x v ∧ AfterG K W s σ vs (g x ρ s.h) Q
def TGsv_ (K : PySem.W.Frag) (W : WX) (g : GMs) (vs : List Nat) : TGs := fun us σ H Q => ∃ (s : Sg) (ρ : Env_) (xs : List IV), s.H = H ∧ RS K s ∧ RE K s ρ σ ∧ RVs K s xs us ∧ AfterG K W s σ vs (g xs ρ s.h) Q
theorem sg_of {vs : List Nat} (h : PG X tg (TGv_ X.K W g vs)) : PG X tg (TG_ X.K W g) := PG.imp h fun v σ H Q ⟨s, ρ, x, eh, rs, re, rv, h⟩ => by
  refine ⟨s, ρ, x, eh, rs, re, rv, ?_⟩
  revert h
  cases g x ρ s.h with
  | nx ρ1 h1 => exact fun h s' σ' e2 rs2 eh re2 _ _ => h s' σ' e2 rs2 eh re2
  | exc C x ρ1 h1 => exact fun h => h
  | bk ρ1 h1 => exact fun h => h.elim
  | ct ρ1 h1 => exact fun h => h.elim
  | rt x h1 => exact fun h => h.elim
  | stuck => exact fun h => h.elim
theorem sgv_name {vs : List Nat} {i : Nat} {x : Str} (hN : X.N.Nodup) (hi : X.N[i]? = some x) (hx : Loc X.env.scope x) (hv : i ∈ vs) (hf : X.fn x = true ∨ X.env.scope.names.lookup x = some .local := by first | exact .inl rfl | exact .inr rfl | assumption) : PG X (.Name x pos) (TGv_ X.K W (gmName i) vs) :=
  PG.imp (pg_name hN hi hx hf) fun v σ H Q ⟨s, ρ, x, eh, rs, re, rv, h⟩ => by
    subst eh
    exact h s _ (Ext.refl s) rs rfl (re.set rv) (List.length_set ..) fun j hj => List.getElem?_set_ne fun e => hj (by rw [← e]; exact hv)
theorem sgvs_nil {vs : List Nat} : PGs X [] (TGsv_ X.K W gmNil vs) := PGs.imp pgs_nil fun us σ H Q ⟨s, ρ, xs, eh, rs, re, rv, h⟩ => by
  subst eh
  cases xs with
  | nil =>
    simp only [Rvs] at rv
    exact ⟨rv, h s _ (Ext.refl s) rs rfl re rfl fun _ _ => rfl⟩
  | cons x xs => exact h.elim
theorem sgvs_cons {vs : List Nat} {e : Expr} {es : List Expr} (h1 : PG X e (TGv_ X.K W g vs)) (h2 : PGs X es (TGsv_ X.K W gs vs)) (hs : (assignEach (e :: es) X.env).map (·.2) = assign e X.env :: (assignEach es X.env).map (·.2) := by rfl) :
    PGs X (e :: es) (TGsv_ X.K W (gmCons g gs) vs) := PGs.imp (pgs_cons h1 h2 hs) fun us σ H Q ⟨s, ρ, xs, eh, rs, re, rv, h⟩ => by
  subst eh
  cases xs with
  | nil => exact h.elim
  | cons x xs =>
    simp only [Rvs] at rv
    obtain ⟨z, zs, e, r1, r2⟩ := rv
    refine ⟨z, zs, e, s, ρ, x, rfl, rs, re, r1, ?_⟩
    unfold gmCons ResS.bind at h
    revert h
    dsimp only
    cases g x ρ s.h with
    | nx ρ1 h1 =>
      intro h s' σ' e2 rs2 eh re2 ln ag
      rw [← eh] at h
      refine ⟨s', ρ1, xs, rfl, rs2, re2, RVs.ext e2 r2, ?_⟩
      revert h
      dsimp only
      cases gs xs ρ1 s'.h with
      | nx ρ2 h2 => exact fun h s'' σ'' e3 rs3 eh3 re3 ln2 ag2 => h s'' σ'' (e2.trans e3) rs3 eh3 re3 (ln2.trans ln) fun i hi => (ag2 i hi).trans (ag i hi)
      | exc C z ρ2 h2 => exact fun h s'' σ'' e3 rs3 eh3 re3 => h s'' σ'' (e2.trans e3) rs3 eh3 re3
      | bk ρ1 h1 => exact fun h => h
      | ct ρ1 h1 => exact fun h => h
      | rt x h1 => exact fun h => h
      | stuck => exact fun h => h
    | bk ρ1 h1 => exact fun h => h
    | ct ρ1 h1 => exact fun h => h
    | rt x h1 => exact fun h => h
    | exc C x ρ1 h1 => exact fun h => h
    | stuck => exact fun h => h
theorem sgv_tup {vs : List Nat} {es : List Expr} {k n : Nat} (hc : X.calm = true) (h : PGs X es (TGsv_ X.K W gs vs)) (hn : (assignEach es X.env).length = n := by rfl) (hst : (assignEach es X.env).findIdx? (·.1) = none := by rfl) :
    PG X (.Tuple es k pos) (TGv_ X.K W (gmTup n gs) vs) := PG.imp (pg_tup hc h hn hst) fun v σ H Q ⟨s, ρ, x, eh, rs, re, rv, h⟩ => by
  subst eh
  unfold gmTup at h
  split at h
  · rename_i xs e
    split at h
    · rename_i q
      obtain ⟨a, us, rfl, h1, h2⟩ := asT_rv rv e
      exact ⟨a, us, rfl, h1, by rw [← Rvs.length_ h2]; exact q, s, ρ, xs, rfl, rs, re, h2, h⟩
    · exact h.elim
  · exact h.elim
theorem sg_name {i : Nat} {x : Str} (hN : X.N.Nodup) (hi : X.N[i]? = some x) (hx : Loc X.env.scope x) (hf : X.fn x = true ∨ X.env.scope.names.lookup x = some .local := by first | exact .inl rfl | exact .inr rfl | assumption) : PG X (.Name x pos) (TG_ X.K W (gmName i)) :=
  PG.imp (pg_name hN hi hx hf) fun v σ H Q ⟨s, ρ, x, eh, rs, re, rv, h⟩ => by
    subst eh
    exact h s _ (Ext.refl s) rs rfl (re.set rv)
theorem onlyNx_bindS (r : Res) (ρ : Env_) (f : IV → List Cell → ResS) : onlyNx (r.bindS ρ f) = r.bindS ρ fun x h => onlyNx (f x h) := by
  cases r <;> rfl
/-- o[i] = v on a list that may change -/
def gmSubL (mo mi : EM) : GM := fun x ρ h => (mo ρ h).bindS ρ fun o h1 => (mi ρ h1).bindS ρ fun i h2 => match o, i with
  | .ref n, .int k => (match h2[n]? with
    | some (.lst xs) => (match ixN xs.length k with
      | some j => .nx ρ (h2.set n (.lst (xs.set j x)))
      | none => .stuck)
    | _ => .stuck)
  | _, _ => .stuck
theorem sg_subL {o i : Expr} {mo mi : EM} (ho : PE X o (T X.K W mo)) (hi : PE X i (T X.K W mi))
    (ha : ∀ v, assign (.Subscript o i pos) X.env v = (do
      let ov ← holding [v] (eval o X.env)
      let iv ← holding [v, ov] (eval i X.env)
      standAt pos
      holding [v, ov, iv] (setItem ov iv v)
      release [v, ov, iv] []) := by intros; rfl) : PG X (.Subscript o i pos) (TG_ X.K W (gmSubL mo mi)) :=
  PG.imp (pg_sub ho hi set_list ha) fun v σ H Q ⟨s, ρ, x, eh, rs, re, rv, h⟩ => by
    subst eh
    unfold gmSubL at h
    rw [onlyNx_bindS] at h
    refine T.bindS rs re h fun o s1 vo n1 h1 => ?_
    rw [onlyNx_bindS] at h1
    refine T.bindS n1.rs n1.re h1 fun i s2 vi n2 h2 => ?_
    split at h2
    · rename_i n k
      split at h2
      · rename_i xs hc
        split at h2
        · rename_i j hj
          obtain ⟨a, rfl, ha⟩ := rv_ref (n1.rv.ext n2.ext)
          obtain ⟨vs, k1, k2⟩ := cell_lst n2.rs ha hc
          refine ⟨a, vs, k, j, rfl, rv_int n2.rv, k1, by rw [← Rvs.length_ k2]; exact hj, ?_⟩
          have hne : Cell.lst xs ≠ .dead := fun z => by cases z
          refine h2 (s2.set n a (.lst (vs.set j v)) (.lst (xs.set j x))) σ (Ext.set n2.rs ha hc hne) (n2.rs.set ha hc hne ?_) rfl (n2.re.ext (Ext.set n2.rs ha hc hne))
          exact ⟨_, rfl, Rvs.set_ j (k2.ext (Ext.set n2.rs ha hc hne)) (((rv.ext n1.ext).ext n2.ext).ext (Ext.set n2.rs ha hc hne))⟩
        · exact h2.elim
      · exact h2.elim
    · exact h2.elim
/-- target = e -/
def sAsg (e : EM) (g : GM) : SM := fun ρ h => (e ρ h).bindS ρ fun x h1 => onlyNx (g x ρ h1)
theorem onlyNx_of {K : PySem.W.Frag} {s : Sg} {r : ResS} {D : Ends} (h : AfterS K W s (onlyNx r) D) : AfterS K W s (onlyNx r) { nx := D.nx, rt := fun _ _ => False } := by
  cases r with
  | nx ρ h' => exact h
  | exc C x ρ h' => exact h
  | _ => exact h.elim
theorem ss_asg {e : Expr} {me : EM} (he : PE X e (T X.K W me)) (hg : PG X tg (TG_ X.K W g)) (hs : swapsWithSole [tg] e pos.line X.env = pure false := by rfl) (hw : swappedStores [tg] e X.env = pure none := by rfl)
    (h1 : (assignEach [tg] X.env).map (·.2) = [assign tg X.env] := by rfl) : PS X (.Assign [tg] e pos) (TS_ X.K W (sAsg me g)) := PS.imp (ps_asg he hg hs hw h1) fun D σ H ⟨s, ρ, eh, rs, re, h⟩ => by
  subst eh
  exact T.bindS rs re h fun x s1 v n1 h1 => ⟨s1, ρ, x, rfl, n1.rs, n1.re, n1.rv, onlyNx_of h1⟩
/-- name = e -/
def sSet (i : Nat) (e : EM) : SM := fun ρ h => (e ρ h).bindS ρ fun x h1 => .nx (ρ.set i (some x)) h1
theorem ss_set {i : Nat} {x : Str} {e : Expr} {me : EM} {pos' : Pos} (hN : X.N.Nodup) (hi : X.N[i]? = some x) (hx : Loc X.env.scope x) (he : PE X e (T X.K W me)) (hs : swapsWith e (some (.Name x pos')) pos.line X.env = pure false := by rfl)
    (hf : X.fn x = true ∨ X.env.scope.names.lookup x = some .local := by first | exact .inl rfl | exact .inr rfl | assumption) : PS X (.Assign [.Name x pos'] e pos) (TS_ X.K W (sSet i me)) :=
  PS.imp (ps_set hN hi hx he hs hf) fun D σ H ⟨s, ρ, eh, rs, re, h⟩ => by
    subst eh
    exact T.bindS rs re h fun x s1 v n1 h1 => h1.nx_ n1.rs (n1.re.set n1.rv)
/-- two names at once, both sides written -/
def sPar (i j : Nat) (a : AM) : SM := fun ρ h => (a ρ h).bindS ρ fun xs h1 => match xs with
  | [x, y] => .nx ((ρ.set i (some x)).set j (some y)) h1
  | _ => .stuck
theorem TA_.bindS {K : PySem.W.Frag} {s : Sg} {ρ : Env_} {σ : L2.St} {m : AM} {f : List IV → List Cell → ResS} {D : Ends} {R : List V → Hp → Prop} (rs : RS K s) (re : RE K s ρ σ) (h : AfterS K W s ((m ρ s.h).bindS ρ f) D)
    (k : ∀ xs s1 vs, NxtL K s ρ σ xs s1 vs → AfterS K W s1 (f xs s1.h) D → R vs s1.H) : TA_ K W m σ s.H R := by
  refine .of rs re ?_
  cases e : m ρ s.h with
  | ok x h1 =>
    rw [e] at h
    intro s' v e2 r2 eh rv
    exact k x s' v ⟨e2, r2, re.ext e2, rv⟩ (by rw [eh]; exact AfterS.ext e2 h)
  | exc C x h1 =>
    rw [e] at h
    exact fun s' e2 r2 eh => h s' σ e2 r2 eh (re.ext e2)
  | stuck =>
    rw [e] at h
    exact h
theorem ss_par {i j : Nat} {x y : Str} {a b : Expr} {ma : AM} {px py pt : Pos} {kt k2 pt2} (hc : X.calm = true) (hN : X.N.Nodup) (hi : X.N[i]? = some x) (hj : X.N[j]? = some y) (hij : i ≠ j)
    (hx : X.env.scope.names.lookup x = some .local) (hy : X.env.scope.names.lookup y = some .local) (ha : PA X [a, b] (TA_ X.K W ma))
    (hw : swappedStores [.Tuple [.Name x px, .Name y py] kt pt] (.Tuple [a, b] k2 pt2) X.env = pure (some [x, y]) := by rfl)
    (hs : swapsWithSole [.Tuple [.Name x px, .Name y py] kt pt] (.Tuple [a, b] k2 pt2) pos.line X.env = pure false := by rfl) :
    PS X (.Assign [.Tuple [.Name x px, .Name y py] kt pt] (.Tuple [a, b] k2 pt2) pos) (TS_ X.K W (sPar i j ma)) :=
  PS.imp (ps_par hc hN hi hj hij hx hy ha hw hs) fun D σ H ⟨s, ρ, eh, rs, re, h⟩ => by
    subst eh
    refine TA_.bindS rs re h fun xs s1 vs n1 h1 => ?_
    split at h1
    · have rv := n1.rv
      simp only [Rvs] at rv
      obtain ⟨z, zs, e1, r1, z2, zs2, e2, r2, e3⟩ := rv
      subst e1 e2 e3
      exact ⟨z, z2, rfl, h1.nx_ n1.rs ((n1.re.set r1).set r2)⟩
    · exact h1.elim
/-- name op= e -/
def sAug (i : Nat) (g : M2) (e : EM) : SM := fun ρ h => (eVar i ρ h).bindS ρ fun x h0 => (e ρ h0).bindS ρ fun y h1 => (g x y h1).bindS ρ fun z h2 => .nx (ρ.set i (some z)) h2
theorem ss_aug {i : Nat} {x : Str} {e : Expr} {me : EM} {op : Operator} {g : M2} {pos' : Pos} (hN : X.N.Nodup) (hi : X.N[i]? = some x) (hx : Loc X.env.scope x) (he : PE X e (T X.K W me)) (o : OpM X (inplaceOp op) g)
    (hf : X.fn x = true ∨ X.env.scope.names.lookup x = some .local := by first | exact .inl rfl | exact .inr rfl | assumption) : PS X (.AugAssign (.Name x pos') op e pos) (TS_ X.K W (sAug i g me)) := by
  obtain ⟨r, ho, hr⟩ := o
  refine PS.imp (ps_aug hN hi hx he (show PIp X op r from ho) hf) fun D σ H ⟨s, ρ, eh, rs, re, h⟩ => ?_
  subst eh
  unfold sAug eVar at h
  cases e1 : ρ[i]? with
  | none =>
    rw [e1] at h
    exact h.elim
  | some o =>
    rw [e1] at h
    cases o with
    | none => exact h.elim
    | some x0 =>
      obtain ⟨v0, q1, q2⟩ := re.at_ i x0 e1
      refine ⟨v0, q1, T.bindS rs re h fun y s1 u n1 h1 => ?_⟩
      refine hr s1 x0 y v0 u (fun c d H => W c d σ H) _ n1.rs (q2.ext n1.ext) n1.rv ?_
      revert h1
      cases g x0 y s1.h with
      | ok z h2 =>
        intro h s2 w e2 rs2 eh2 rv2
        have h' : AfterS X.K W s2 (.nx (ρ.set i (some z)) s2.h) D := by
          rw [eh2]
          exact AfterS.ext e2 h
        exact h'.nx_ rs2 ((n1.re.ext e2).set rv2)
      | exc C z h2 => exact fun h s2 e2 rs2 eh2 => h s2 σ e2 rs2 eh2 (n1.re.ext e2)
      | stuck => exact fun h => h
theorem om_iadd : OpM X (inplaceOp .Add) gAddI := by
  refine ⟨_, ip_add, fun s x y v u E Q rs rx ry h => ?_⟩
  unfold gAddI gII at h
  split at h
  · rw [rv_int rx, rv_int ry]
    rw [if_pos rfl] at h
    exact ⟨_, _, rfl, rfl, h.ret rs mk_int⟩
  · exact h.elim
theorem om_isub : OpM X (inplaceOp .Sub) gSub := by
  refine ⟨_, ip_sub, fun s x y v u E Q rs rx ry h => ?_⟩
  unfold gSub gII at h
  split at h
  · rw [rv_int rx, rv_int ry]
    rw [if_pos rfl] at h
    exact ⟨_, _, rfl, rfl, h.ret rs mk_int⟩
  · exact h.elim
end

/-! ### what is walked -/
abbrev WM := Env_ → List Cell → ResL
structure Walks_ (K : PySem.W.Frag) (s0 : Sg) (J : It) (xs : List IV) : Prop where
  go : ∀ (s : Sg) (i : Nat), Ext0 s0 s → RS K s → i < xs.length → J.go i s.H
  yld : ∀ (s : Sg) (i : Nat) (v : V) (H' : Hp), Ext0 s0 s → RS K s → i < xs.length → J.yld i s.H v H' → ∃ (s' : Sg) (x : IV), s'.H = H' ∧ Ext s s' ∧ RS K s' ∧ s'.h = s.h ∧ xs[i]? = some x ∧ RV K s' x v
  stop : ∀ (s : Sg), Ext0 s0 s → RS K s → J.stop xs.length s.H
theorem Walks_.ext {K : PySem.W.Frag} {s0 s1 : Sg} {J : It} {xs : List IV} (w : Walks_ K s0 J xs) (e : Ext0 s0 s1) : Walks_ K s1 J xs :=
  ⟨fun s i e2 => w.go s i (e.trans e2), fun s i v H' e2 => w.yld s i v H' (e.trans e2), fun s e2 => w.stop s (e.trans e2)⟩
def AfterW (K : PySem.W.Frag) (E : XK) (s : Sg) (r : ResL) (R : It → Hp → Prop) : Prop := match r with
  | .ok xs h => ∀ s' J, Ext s s' → RS K s' → s'.h = h → Walks_ K s' J xs → R J s'.H
  | .exc C x h => ∀ s', Ext s s' → RS K s' → s'.h = h → ErrAt K s' C x E
  | .stuck => False
def TI_ (K : PySem.W.Frag) (W : WX) (m : WM) : TI := fun σ H R => ∃ (s : Sg) (ρ : Env_), s.H = H ∧ RS K s ∧ RE K s ρ σ ∧ AfterW K (fun c d H => W c d σ H) s (m ρ s.h) R
theorem PI.imp {X : Cx} {tg iter : Expr} {t t' : TI} (h : PI X tg iter t) (i : ∀ σ H R, t' σ H R → t σ H R) : PI X tg iter t' := ⟨fun pins s σ H R I q => h.run pins s σ H R I (i _ _ _ q)⟩
theorem TI_.bindS {K : PySem.W.Frag} {W : WX} {s : Sg} {ρ : Env_} {σ : L2.St} {m : WM} {f : List IV → List Cell → ResS} {D : Ends} {R : It → Hp → Prop} (rs : RS K s) (re : RE K s ρ σ) (h : AfterS K W s ((m ρ s.h).bindS ρ f) D)
    (k : ∀ xs s1 J, Ext s s1 → RS K s1 → RE K s1 ρ σ → Walks_ K s1 J xs → AfterS K W s1 (f xs s1.h) D → R J s1.H) : TI_ K W m σ s.H R := by
  refine ⟨s, ρ, rfl, rs, re, ?_⟩
  cases e : m ρ s.h with
  | ok x h1 =>
    rw [e] at h
    intro s' J e2 r2 eh wk
    exact k x s' J e2 r2 (re.ext e2) wk (by rw [eh]; exact AfterS.ext e2 h)
  | exc C x h1 =>
    rw [e] at h
    exact fun s' e2 r2 eh => h s' σ e2 r2 eh (re.ext e2)
  | stuck =>
    rw [e] at h
    exact h
theorem TI_.bind {K : PySem.W.Frag} {W : WX} {s : Sg} {ρ : Env_} {σ : L2.St} {m : WM} {f : List IV → List Cell → Res} {Q : VK} {R : It → Hp → Prop} (rs : RS K s) (re : RE K s ρ σ) (h : After K (fun c d H => W c d σ H) s ((m ρ s.h).bind f) Q)
    (k : ∀ xs s1 J, Ext s s1 → RS K s1 → RE K s1 ρ σ → Walks_ K s1 J xs → After K (fun c d H => W c d σ H) s1 (f xs s1.h) Q → R J s1.H) : TI_ K W m σ s.H R := by
  refine ⟨s, ρ, rfl, rs, re, ?_⟩
  cases e : m ρ s.h with
  | ok x h1 =>
    rw [e] at h
    intro s' J e2 r2 eh wk
    exact k x s' J e2 r2 (re.ext e2) wk (by rw [eh]; exact After.ext e2 h)
  | exc C x h1 =>
    rw [e] at h
    exact h
  | stuck =>
    rw [e] at h
    exact h
/-! ### for -/
def forLoop (g : GM) (b : SM) : List IV → SM
  | [], ρ, h => .nx ρ h
  | x :: xs, ρ, h => match (onlyNx (g x ρ h)).bind b with
    | .nx ρ' h' => forLoop g b xs ρ' h'
    | .ct ρ' h' => forLoop g b xs ρ' h'
    | .bk ρ' h' => .nx ρ' h'
    | r => r
def sFor (w : WM) (g : GM) (b : SM) : SM := fun ρ h => (w ρ h).bindS ρ fun xs h1 => forLoop g b xs ρ h1
section
variable {X : Cx} {W : WX} {tg iter : Expr} {body : List Stmt} {w : WM} {g : GM} {mb : SM} {pos : Pos}
theorem ss_for (hp : PassesOwn (model X.prog X.w) X.A X.env X.xe) (hc : X.calm = true) (hi : PI X tg iter (TI_ X.K W w)) (hg : PG X tg (TG_ X.K W g)) (hb : PSs X body (TS_ X.K W mb))
    (hs : ∀ x, foldedSetIterable iter X.env x = pure x := by intro _; rfl) : PS X (.For tg iter body [] pos) (TS_ X.K W (sFor w g mb)) :=
  PS.imp (ps_for hp hc hi hg hb hs) fun D σ H ⟨s, ρ, eh, rs, re, h⟩ => by
    subst eh
    refine TI_.bindS rs re h fun xs s1 J e1 rs1 re1 wk h1 => ?_
    refine ⟨fun i m σ H => ∃ (s : Sg) (ρ : Env_), s.H = H ∧ Ext s1 s ∧ RS X.K s ∧ RE X.K s ρ σ ∧ m = xs.length - i ∧ i ≤ xs.length ∧ AfterS X.K W s (forLoop g mb (xs.drop i) ρ s.h) D,
      ⟨xs.length, s1, ρ, rfl, Ext.refl _, rs1, re1, rfl, Nat.zero_le _, h1⟩, ?_⟩
    rintro i m σ2 H2 ⟨s2, ρ2, rfl, e2, rs2, re2, em, hi2, h2⟩
    by_cases hl : i < xs.length
    · refine .inr ⟨wk.go s2 i e2.e0 rs2 hl, fun σ' H' => ∃ (s : Sg) (ρ : Env_), s.H = H' ∧ Ext s1 s ∧ RS X.K s ∧ RE X.K s ρ σ' ∧ AfterS X.K W s (forLoop g mb (xs.drop (i + 1)) ρ s.h) D,
        fun σ' H' ⟨s3, ρ3, q1, q2, q3, q4, q5⟩ => ⟨xs.length - (i + 1), by omega, s3, ρ3, q1, q2, q3, q4, rfl, hl, q5⟩, fun v H' hy => ?_⟩
      obtain ⟨s3, x, rfl, e3, rs3, eh3, hx, rv3⟩ := wk.yld s2 i v H' e2.e0 rs2 hl hy
      have hd : xs.drop i = x :: xs.drop (i + 1) := by
        obtain ⟨h', q⟩ := List.getElem?_eq_some_iff.mp hx
        rw [List.drop_eq_getElem_cons h', q]
      rw [hd, ← eh3] at h2
      refine ⟨s3, ρ2, x, rfl, rs3, re2.ext e3, rv3, ?_⟩
      have h3 := AfterS.ext e3 h2
      unfold forLoop at h3
      revert h3
      cases g x ρ2 s3.h with
      | nx ρ4 h4 =>
        intro h3 s4 σ4 e4 rs4 eh4 re4
        refine TS_.of rs4 re4 ?_
        have h5 := AfterS.ext e4 h3
        have e14 : Ext s1 s4 := (e2.trans e3).trans e4
        dsimp only [onlyNx, ResS.bind] at h5
        rw [← eh4] at h5
        revert h5
        cases mb ρ4 s4.h with
        | nx ρ5 h5 => exact fun h5 s5 σ5 e5 rs5 eh5 re5 => ⟨s5, ρ5, rfl, e14.trans e5, rs5, re5, by rw [eh5]; exact AfterS.ext e5 h5⟩
        | ct ρ5 h5 => exact fun h5 s5 σ5 e5 rs5 eh5 re5 => ⟨s5, ρ5, rfl, e14.trans e5, rs5, re5, by rw [eh5]; exact AfterS.ext e5 h5⟩
        | bk ρ5 h5 => exact fun h5 => h5
        | rt z h5 => exact fun h5 => h5
        | exc C z ρ5 h5 => exact fun h5 => h5
        | stuck => exact fun h5 => h5
      | exc C z ρ4 h4 => exact fun h3 => h3
      | bk ρ4 h4 => exact fun h3 => h3.elim
      | ct ρ4 h4 => exact fun h3 => h3.elim
      | rt z h4 => exact fun h3 => h3.elim
      | stuck => exact fun h3 => h3.elim
    · have ei : i = xs.length := by omega
      subst ei
      rw [List.drop_length] at h2
      exact .inl ⟨wk.stop s2 e2.e0 rs2, AfterS.nx_ (ρ := ρ2) h2 rs2 re2⟩
end
/-! ### what a name's list is walked: a frozen list, a tuple, the script -/
def wSeq (m : EM) : WM := fun ρ h => (m ρ h).bindL fun x h1 => match x with
  | .lst xs => .ok xs h1
  | .tup xs => .ok xs h1
  | .scr xs => .ok xs h1
  | _ => .stuck
section
variable {X : Cx} {W : WX} {tg l : Expr} {m : EM} {pos : Pos}
theorem T.bindW {K : PySem.W.Frag} {s : Sg} {ρ : Env_} {σ : L2.St} {m : EM} {f : IV → List Cell → ResL} {R0 : It → Hp → Prop} {R : V → Hp → Prop} (rs : RS K s) (re : RE K s ρ σ)
    (h : AfterW K (fun c d H => W c d σ H) s ((m ρ s.h).bindL f) R0)
    (k : ∀ x s1 v, Nxt K s ρ σ x s1 v → AfterW K (fun c d H => W c d σ H) s1 (f x s1.h) R0 → R v s1.H) : T K W m σ s.H R := by
  refine .of rs re ?_
  cases e : m ρ s.h with
  | ok x h1 =>
    rw [e] at h
    intro s' v e2 r2 eh rv
    refine k x s' v ⟨e2, r2, re.ext e2, rv⟩ ?_
    rw [eh]
    revert h
    show AfterW K _ s (f x h1) R0 → _
    cases f x h1 with
    | ok xs h2 => exact fun h s'' J e3 => h s'' J (e2.trans e3)
    | exc C z h2 => exact fun h s'' e3 => h s'' (e2.trans e3)
    | stuck => exact fun h => h
  | exc C x h1 =>
    rw [e] at h
    exact h
  | stuck =>
    rw [e] at h
    exact h
/-- a value is walked -/
def IterR (X : Cx) (tg : Expr) (r : V → Hp → (It → Hp → Prop) → Prop) : Prop :=
  ∀ (pins : List (Addr × Obj)) (s : Shared) (σ : L2.St) (H : Hp) (x : V) (v : Value) (R : It → Hp → Prop), Inv X pins σ H s → RelV x v → r x H R → wpAny (model X.prog X.w) X.A (pyIter v) (PIE X pins σ tg R) X.xe s
theorem pi_val {te : TE} {r : V → Hp → (It → Hp → Prop) → Prop} (hr : IterR X tg r) (hl : PE X l te) : PI X tg l (fun σ H R => te σ H fun x H1 => r x H1 R) :=
  ⟨fun pins s σ H R I h => thn (hl.run pins s σ H _ I h) fun v s1 ⟨x, H1, I1, r1, q1⟩ => hr pins s1 σ H1 x v R I1 r1 q1⟩
def rSeqW (K : PySem.W.Frag) : V → Hp → (It → Hp → Prop) → Prop := fun x H R => (∃ a xs, x = .ref a ∧ SqL K H a xs ∧ R (Itl K a) H) ∨ ∃ a xs, x = .ref a ∧ SqT K H a xs ∧ R (Itt K a) H
theorem ir_seq : IterR X tg (rSeqW X.K) := by
  intro pins sh σ H x v R I r h
  rcases h with ⟨a, xs, rfl, hq, q⟩ | ⟨a, xs, rfl, hq, q⟩
  · cases r
    obtain ⟨its, rv, p, _⟩ := I.list hq
    refine wpAny_pyIter_list p.isList ⟨sh.heap.objs.size, [sh.heap.objs.size], _, _, H, rfl, I.kept (t' := sh.toks) fun b o e => Heap.get?_push_of_some _ e, turn_list a _, ⟨_, Heap.get?_push_size _ rfl, rfl, rfl⟩, fun b hb => ?_, q⟩
    rw [List.mem_singleton.mp hb]
    exact I.fpOk (Nat.le_refl _) (I.hok.fresh (Nat.le_refl _))
  · cases r
    obtain ⟨its, rv, p, _⟩ := I.tuple hq
    refine wpAny_pyIter_tuple (show sh.heap.IsTuple a its.toArray from p) ⟨sh.heap.objs.size, [sh.heap.objs.size], _, _, H, rfl, I.kept (t' := sh.toks) fun b o e => Heap.get?_push_of_some _ e, turn_tuple a _, ⟨_, Heap.get?_push_size _ rfl, rfl, rfl⟩, fun b hb => ?_, q⟩
    rw [List.mem_singleton.mp hb]
    exact I.fpOk (Nat.le_refl _) (I.hok.fresh (Nat.le_refl _))
theorem sqL_ext {K : PySem.W.Frag} {s s' : Sg} {a : Addr} {vs : List V} (h : Fz s a (.lst vs) ∨ SqL K (fun _ => none) a vs) (e : Ext0 s s') : SqL K s'.H a vs := by
  rcases h with h | (h | h)
  · exact .inl (e.fz _ _ h).2
  · rcases h with h | ⟨_, h⟩ <;> cases h
  · exact .inr h
theorem sqT_ext {K : PySem.W.Frag} {s s' : Sg} {a : Addr} {vs : List V} (h : Fz s a (.tup vs) ∨ SqT K (fun _ => none) a vs) (e : Ext0 s s') : SqT K s'.H a vs := by
  rcases h with h | (h | h)
  · exact .inl (e.fz _ _ h).2
  · rcases h with h | ⟨_, h⟩ <;> cases h
  · exact .inr h
theorem walks_list {K : PySem.W.Frag} {s : Sg} {a : Addr} {vs : List V} {xs : List IV} (h : Fz s a (.lst vs) ∨ SqL K (fun _ => none) a vs) (r : RVs K s xs vs) : Walks_ K s (Itl K a) xs where
  go := fun s' i e rs hi => by
    obtain ⟨v, q, _⟩ := Rvs.at_ r (List.getElem?_eq_getElem hi)
    exact ⟨vs, v, sqL_ext h e, q⟩
  yld := fun s' i v H' e rs hi ⟨e1, e2⟩ => by
    obtain ⟨v', q, rv⟩ := Rvs.at_ r (List.getElem?_eq_getElem hi)
    have ev : v' = v := Option.some.inj (q.symm.trans (e2 vs (sqL_ext h e)))
    subst ev
    exact ⟨s', _, e1.symm, Ext.refl _, rs, rfl, List.getElem?_eq_getElem hi, rv.ext0 e⟩
  stop := fun s' e rs => ⟨vs, sqL_ext h e, Nat.le_of_eq (Rvs.length_ r).symm⟩
theorem walks_tup {K : PySem.W.Frag} {s : Sg} {a : Addr} {vs : List V} {xs : List IV} (h : Fz s a (.tup vs) ∨ SqT K (fun _ => none) a vs) (r : RVs K s xs vs) : Walks_ K s (Itt K a) xs where
  go := fun s' i e rs hi => by
    obtain ⟨v, q, _⟩ := Rvs.at_ r (List.getElem?_eq_getElem hi)
    exact ⟨vs, v, sqT_ext h e, q⟩
  yld := fun s' i v H' e rs hi ⟨e1, e2⟩ => by
    obtain ⟨v', q, rv⟩ := Rvs.at_ r (List.getElem?_eq_getElem hi)
    have ev : v' = v := Option.some.inj (q.symm.trans (e2 vs (sqT_ext h e)))
    subst ev
    exact ⟨s', _, e1.symm, Ext.refl _, rs, rfl, List.getElem?_eq_getElem hi, rv.ext0 e⟩
  stop := fun s' e rs => ⟨vs, sqT_ext h e, Nat.le_of_eq (Rvs.length_ r).symm⟩
theorem AfterW.go {K : PySem.W.Frag} {E : XK} {s : Sg} {xs : List IV} {R : It → Hp → Prop} {J : It} (h : AfterW K E s (.ok xs s.h) R) (rs : RS K s) (wk : Walks_ K s J xs) : R J s.H := h s J (Ext.refl s) rs rfl wk
theorem si_seq (hl : PE X l (T X.K W m)) : PI X tg l (TI_ X.K W (wSeq m)) := PI.imp (pi_val ir_seq hl) fun σ H R ⟨s, ρ, eh, rs, re, h⟩ => by
  subst eh
  refine T.bindW rs re h fun x s1 v n1 h1 => ?_
  split at h1
  · have rv := n1.rv
    simp only [Rv] at rv
    obtain ⟨a, vs, rfl, q1, q2⟩ := rv
    exact .inl ⟨a, vs, rfl, .inl q1.2, h1.go n1.rs (walks_list (.inl q1) q2)⟩
  · have rv := n1.rv
    simp only [Rv] at rv
    obtain ⟨a, vs, rfl, q1, q2⟩ := rv
    exact .inr ⟨a, vs, rfl, sqT_ext q1 (Ext.refl _).e0, h1.go n1.rs (walks_tup q1 q2)⟩
  · have rv := n1.rv
    simp only [Rv] at rv
    obtain ⟨a, vs, rfl, q1, q2⟩ := rv
    exact .inl ⟨a, vs, rfl, sqL_ext q1 (Ext.refl _).e0, h1.go n1.rs (walks_list q1 q2)⟩
  · exact h1.elim
/-! ranges -/
def rangeI (lo hi : Int) : List IV := (List.range (hi - lo).toNat).map fun (i : Nat) => IV.int (lo + (i : Int))
def wRange1 (a : EM) : WM := fun ρ h => (a ρ h).bindL fun x h1 => match x with
  | .int j => if -(2 ^ 62) ≤ j ∧ j < 2 ^ 62 then .ok (rangeI 0 j) h1 else .stuck
  | _ => .stuck
def wRange2 (a b : EM) : WM := fun ρ h => (a ρ h).bindL fun x h1 => (b ρ h1).bindL fun y h2 => match x, y with
  | .int i, .int j => if -(2 ^ 62) ≤ i ∧ i < 2 ^ 62 ∧ -(2 ^ 62) ≤ j ∧ j < 2 ^ 62 then .ok (rangeI i j) h2 else .stuck
  | _, _ => .stuck
theorem rangeI_len (lo hi : Int) : (rangeI lo hi).length = (hi - lo).toNat := by
  unfold rangeI
  rw [List.length_map, List.length_range]
theorem walks_range {K : PySem.W.Frag} {s : Sg} {lo hi : Int} : Walks_ K s (Itr lo (hi - lo).toNat) (rangeI lo hi) where
  go := fun s' i e rs h => by
    rw [rangeI_len] at h
    exact h
  yld := fun s' i v H' e rs h ⟨e1, e2⟩ => by
    rw [rangeI_len] at h
    refine ⟨s', .int (lo + i), e1.symm, Ext.refl _, rs, rfl, ?_, by rw [e2]; exact mk_int⟩
    unfold rangeI
    rw [List.getElem?_map, List.getElem?_range h]
    rfl
  stop := fun s' e rs => by
    show _ ≤ _
    rw [rangeI_len]
    exact Nat.le_refl _
theorem si_range1 {a : Expr} {ma : EM} {p : Pos} (hg : Gl X "range") (hm : X.mg "range" = none) (ha : PE X a (T X.K W ma)) (hs : starEach [a] X.env = [(false, eval a X.env)] := by rfl) : PI X tg (.Call (.Name "range" p) [a] [] pos) (TI_ X.K W (wRange1 ma)) :=
  PI.imp (pi_range1 hg hm (pa_cons ha pa_nil hs) hs) fun σ H R ⟨s, ρ, eh, rs, re, h⟩ => by
    subst eh
    refine T.bindW rs re h fun x s1 v n1 h1 => ?_
    show ∃ j : Int, [v] = [.int j] ∧ _
    split at h1
    · split at h1
      · rename_i j q
        rw [rv_int n1.rv]
        refine ⟨j, rfl, q.1, q.2, ?_⟩
        have wk := walks_range (K := X.K) (s := s1) (lo := 0) (hi := j)
        rw [Int.sub_zero] at wk
        exact h1.go n1.rs wk
      · exact h1.elim
    · exact h1.elim
theorem si_range2 {a b : Expr} {ma mb : EM} {p : Pos} (hg : Gl X "range") (hm : X.mg "range" = none) (ha : PE X a (T X.K W ma)) (hb : PE X b (T X.K W mb)) (hs : starEach [a, b] X.env = [(false, eval a X.env), (false, eval b X.env)] := by rfl) (hs2 : starEach [b] X.env = [(false, eval b X.env)] := by rfl)
    (hs3 : starEach [a, b] X.env = (false, eval a X.env) :: starEach [b] X.env := by rfl) (hs4 : starEach [b] X.env = (false, eval b X.env) :: starEach [] X.env := by rfl) :
    PI X tg (.Call (.Name "range" p) [a, b] [] pos) (TI_ X.K W (wRange2 ma mb)) :=
  PI.imp (pi_range2 hg hm (pa_cons ha (pa_cons hb pa_nil hs4) hs3) hs hs2) fun σ H R ⟨s, ρ, eh, rs, re, h⟩ => by
    subst eh
    refine T.bindW rs re h fun x s1 v n1 h1 => ?_
    refine T.bindW n1.rs n1.re h1 fun y s2 u n2 h2 => ?_
    show ∃ i j : Int, [v, u] = [.int i, .int j] ∧ _
    split at h2
    · split at h2
      · rename_i i j q
        rw [rv_int n1.rv, rv_int n2.rv]
        exact ⟨i, j, rfl, q, h2.go n2.rs walks_range⟩
      · exact h2.elim
    · exact h2.elim
end

/-! ### list comprehensions: nothing is raised within -/
def wF : WX := fun _ _ _ _ => False
def wipeI (ρ : Env_) : List Nat → Env_
  | [] => ρ
  | v :: vs => (wipeI ρ vs).set v none
/-- g stores an item, t the test, e the element; vs the comprehension's own slots; ρ the slots ahead -/
def lcLoop (g : GM) (t e : EM) (ρ : Env_) : List IV → List IV → List Cell → Res
  | [], acc, h => .ok (.lst acc) h
  | x :: xs, acc, h => match g x ρ h with
    | .nx ρ' h' => (match t ρ' h' with
      | .ok (.bl true) h2 => (match e ρ' h2 with
        | .ok y h3 => if acc.length < sizeLine then lcLoop g t e ρ xs (acc ++ [y]) h3 else .stuck
        | _ => .stuck)
      | .ok (.bl false) h2 => lcLoop g t e ρ xs acc h2
      | _ => .stuck)
    | _ => .stuck
def eLc (w : WM) (g : GM) (t e : EM) (vs : List Nat) : EM := fun ρ h => (w ρ h).bind fun xs h1 => lcLoop g t e (wipeI ρ vs) xs [] h1
section
variable {X : Cx} {W : WX} {elt tg iter : Expr} {ifs : List Expr} {w : WM} {g : GM} {mt me : EM} {pos : Pos}
theorem takesF {X : Cx} : Takes X wF := takes0
theorem RE.wipe {K : PySem.W.Frag} {s : Sg} {ρ : Env_} {σ : L2.St} (h : RE K s ρ σ) : ∀ vs : List Nat, RE K s (wipeI ρ vs) (wipe σ vs)
  | [] => h
  | v :: vs => by
    have ih := RE.wipe h vs
    refine ⟨?_, fun i x hx => ?_⟩
    · show ((wipeI ρ vs).set v none).length = ((L2.wipe σ vs).set v none).length
      rw [List.length_set, List.length_set, ih.len]
    · have hx' : ((wipeI ρ vs).set v none)[i]? = some (some x) := hx
      by_cases hi : i = v
      · subst hi
        by_cases hl : i < (wipeI ρ vs).length
        · rw [List.getElem?_set_self hl] at hx'
          cases hx'
        · rw [List.getElem?_eq_none (by simpa using hl)] at hx'
          cases hx'
      · rw [List.getElem?_set_ne (Ne.symm hi)] at hx'
        obtain ⟨u, q1, q2⟩ := ih.at_ i x hx'
        refine ⟨u, ?_, q2⟩
        show ((L2.wipe σ vs).set v none)[i]? = _
        rw [List.getElem?_set_ne (Ne.symm hi)]
        exact q1
theorem wipe_get {σ : L2.St} {i : Nat} : ∀ {vs : List Nat}, (L2.wipe σ vs)[i]? = if i ∈ vs ∧ i < σ.length then some none else σ[i]?
  | [] => by
    rw [if_neg (by simp)]
    rfl
  | v :: vs => by
    show ((L2.wipe σ vs).set v none)[i]? = _
    by_cases hi : i = v
    · subst hi
      by_cases hl : i < σ.length
      · rw [List.getElem?_set_self (by rw [wipe_length]; exact hl), if_pos ⟨List.mem_cons_self, hl⟩]
      · rw [List.getElem?_eq_none (by rw [List.length_set, wipe_length]; omega), if_neg (fun z => hl z.2), List.getElem?_eq_none (by omega)]
    · rw [List.getElem?_set_ne (Ne.symm hi), wipe_get]
      by_cases hm : i ∈ vs ∧ i < σ.length
      · rw [if_pos hm, if_pos ⟨List.mem_cons_of_mem _ hm.1, hm.2⟩]
      · rw [if_neg hm, if_neg (fun z => hm ⟨(List.mem_cons.mp z.1).resolve_left hi, z.2⟩)]
theorem wipe_agree {σ σ2 : L2.St} {vs : List Nat} (hl : σ2.length = σ.length) (h : ∀ i, i ∉ vs → σ2[i]? = (L2.wipe σ vs)[i]?) : L2.wipe σ2 vs = L2.wipe σ vs := by
  apply List.ext_getElem?
  intro i
  rw [wipe_get, wipe_get, hl]
  by_cases hm : i ∈ vs ∧ i < σ.length
  · rw [if_pos hm, if_pos hm]
  · rw [if_neg hm, if_neg hm]
    by_cases hi : i ∈ vs
    · have hn : ¬ i < σ.length := fun z => hm ⟨hi, z⟩
      rw [List.getElem?_eq_none (by omega), List.getElem?_eq_none (by omega)]
    · rw [h i hi, wipe_get, if_neg hm]
/-- the tests of a comprehension -/
def TTs_ (K : PySem.W.Frag) (W : WX) (m : EM) : TT := TT_ K W m
theorem sts_nil : PTs X [] (TT_ X.K W (eC (.bl true))) := ⟨fun pins s σ H Q I h => pts_nil.run pins s σ H Q I (by
  obtain ⟨s, ρ, eh, rs, re, h⟩ := h
  subst eh
  exact AfterB.ret (b := true) h rs)⟩
theorem sts_one {c : Expr} (h : PT X c (TT_ X.K W mt)) : PTs X [c] (TT_ X.K W mt) := pts_one h
theorem se_lc {scope : Scope} {own : List (Str × Nat)} {vs : List Nat} (hv : own.map (·.2) = vs) (hc : X.calm = true) (hN : X.N.Nodup) (hi : PI X tg iter (TI_ X.K W w)) (ok : BlkOk X.N X.env.scope scope own)
    (hg : ∀ (s : Shared) (H : Hp) (C : Addr) (cl : List (Str × Addr)) (fp : List Addr), PG (X.blk s H scope (compEnvC scope cl C X.env) fp) tg (TGv_ X.K wF g vs))
    (ht : ∀ (s : Shared) (H : Hp) (C : Addr) (cl : List (Str × Addr)) (fp : List Addr), PTs (X.blk s H scope (compEnvC scope cl C X.env) fp) ifs (TT_ X.K wF mt))
    (he : ∀ (s : Shared) (H : Hp) (C : Addr) (cl : List (Str × Addr)) (fp : List Addr), PE (X.blk s H scope (compEnvC scope cl C X.env) fp) elt (T X.K wF me))
    (hs : ∀ x, foldedSetIterable iter X.env x = pure x := by intro _; rfl) :
    PE X (.ListComp elt [⟨tg, iter, ifs, 0⟩] scope pos) (T X.K W (eLc w g mt me vs)) := by
  subst hv
  refine PE.imp (pe_lc hc hN hi ok hg ht he hs) fun σ H Q ⟨s, ρ, eh, rs, re, h⟩ => ?_
  subst eh
  refine TI_.bind rs re h fun xs s1 J e1 rs1 re1 wk h1 => ?_
  intro p hp
  generalize hvs : own.map (·.2) = vs at *
  -- what stays of s1 while the list is made
  refine ⟨fun i m H => ∃ (s : Sg) (acc : List IV) (accV : List V), s.H = H ∧ Ext0 s1 s ∧ s.hid = p :: s1.hid ∧ (∀ a ∈ s1.hid, s.H a = s1.H a) ∧ RS X.K s ∧ s.H p = some (.lst accV) ∧ RVs X.K s acc accV ∧ m = xs.length - i ∧ i ≤ xs.length ∧
    After X.K (fun c d H => W c d σ H) s1 (lcLoop g mt me (wipeI ρ vs) (xs.drop i) acc s.h) Q,
    ⟨xs.length, s1.hide p (.lst []), [], [], rfl, Ext0.hide hp, rfl, fun a ha => upd_ne (rs1.hid_ne hp ha), rs1.hide hp, upd_same, Rvs.nil_, rfl, Nat.zero_le _, h1⟩, ?_⟩
  rintro i m H2 ⟨s2, acc, accV, rfl, x0, xh, xx, rs2, hD, rva, em, hi2, h2⟩
  by_cases hl : i < xs.length
  · refine .inr ⟨wk.go s2 i x0 rs2 hl, fun H => ∃ (s : Sg) (acc : List IV) (accV : List V), s.H = H ∧ Ext0 s1 s ∧ s.hid = p :: s1.hid ∧ (∀ a ∈ s1.hid, s.H a = s1.H a) ∧ RS X.K s ∧ s.H p = some (.lst accV) ∧ RVs X.K s acc accV ∧
      After X.K (fun c d H => W c d σ H) s1 (lcLoop g mt me (wipeI ρ vs) (xs.drop (i + 1)) acc s.h) Q,
      fun H' ⟨s3, acc3, accV3, q1, q2, q3, q4, q5, q6, q7, q8⟩ => ⟨xs.length - (i + 1), by omega, s3, acc3, accV3, q1, q2, q3, q4, q5, q6, q7, rfl, hl, q8⟩, fun v H' hy => ?_⟩
    obtain ⟨s3, x, rfl, e3, rs3, eh3, hx, rv3⟩ := wk.yld s2 i v H' x0 rs2 hl hy
    have hd : xs.drop i = x :: xs.drop (i + 1) := by
      obtain ⟨h', q⟩ := List.getElem?_eq_some_iff.mp hx
      rw [List.drop_eq_getElem_cons h', q]
    -- what an evaluation keeps
    have keep : ∀ {sa sb : Sg}, Ext sa sb → (Ext0 s1 sa ∧ sa.hid = p :: s1.hid ∧ (∀ a ∈ s1.hid, sa.H a = s1.H a) ∧ sa.H p = some (.lst accV)) → (Ext0 s1 sb ∧ sb.hid = p :: s1.hid ∧ (∀ a ∈ s1.hid, sb.H a = s1.H a) ∧ sb.H p = some (.lst accV)) := fun {sa sb} e ⟨q1, q2, q3, q4⟩ =>
      ⟨q1.trans e.e0, e.hd.trans q2, fun a ha => (e.hx a (by rw [q2]; exact List.mem_cons_of_mem _ ha)).trans (q3 a ha), (e.hx p (by rw [q2]; exact List.mem_cons_self)).trans q4⟩
    have k3 := keep e3 ⟨x0, xh, xx, hD⟩
    rw [hd, ← eh3] at h2
    unfold lcLoop at h2
    have re3 : RE X.K s3 (wipeI ρ vs) (L2.wipe σ vs) := (re1.wipe vs).ext0 k3.1
    refine ⟨s3, wipeI ρ vs, x, rfl, rs3, re3, rv3, ?_⟩
    revert h2
    cases g x (wipeI ρ vs) s3.h with
    | nx ρ4 h4 =>
      intro h2 s4 σ4 e4 rs4 eh4 re4 ln4 ag4
      have k4 := keep e4 k3
      have hlen : σ4.length = σ.length := ln4.trans (wipe_length σ vs)
      refine ⟨wipe_agree hlen ag4, s4, ρ4, rfl, rs4, re4, ?_⟩
      dsimp only at h2
      rw [← eh4] at h2
      revert h2
      cases mt ρ4 s4.h with
      | ok b h5 =>
        cases b with
        | bl b =>
          cases b with
          | true =>
            intro h2 s5 e5 rs5 eh5
            have k5 := keep e5 k4
            rw [if_pos rfl]
            refine ⟨s5, ρ4, rfl, rs5, re4.ext e5, ?_⟩
            dsimp only at h2
            rw [← eh5] at h2
            revert h2
            cases me ρ4 s5.h with
            | ok y h6 =>
              intro h2 s6 u e6 rs6 eh6 rv6
              have k6 := keep e6 k5
              dsimp only at h2
              have rva6 : RVs X.K s6 acc accV := (((rva.ext e3).ext e4).ext e5).ext e6
              have hp6 : p ∈ s6.hid := by rw [k6.2.1]; exact List.mem_cons_self
              split at h2
              · rename_i q
                refine ⟨accV, k6.2.2.2, by rw [← Rvs.length_ rva6]; exact q, s6.grow p (.lst (accV ++ [u])), acc ++ [y], accV ++ [u], rfl, k6.1.trans (Ext0.grow hp6), k6.2.1, fun a ha => ?_, rs6.grow hp6, upd_same, ?_, ?_⟩
                · show upd s6.H p _ a = _
                  rw [upd_ne (rs1.hid_ne hp ha)]
                  exact k6.2.2.1 a ha
                · exact (Rvs.append rva6 (Rvs.one rv6)).ext0 (Ext0.grow hp6)
                · rw [show (s6.grow p (HO.lst (accV ++ [u]))).h = h6 from eh6]
                  exact h2
              · exact h2.elim
            | exc C z h6 => exact fun h2 => h2.elim
            | stuck => exact fun h2 => h2.elim
          | false =>
            intro h2 s5 e5 rs5 eh5
            have k5 := keep e5 k4
            rw [if_neg Bool.false_ne_true]
            refine ⟨s5, acc, accV, rfl, k5.1, k5.2.1, k5.2.2.1, rs5, k5.2.2.2, ((rva.ext e3).ext e4).ext e5, ?_⟩
            rw [eh5]
            exact h2
        | _ => exact fun h2 => h2.elim
      | exc C z h5 => exact fun h2 => h2.elim
      | stuck => exact fun h2 => h2.elim
    | _ => exact fun h2 => h2.elim
  · have ei : i = xs.length := by omega
    subst ei
    rw [List.drop_length] at h2
    unfold lcLoop at h2
    refine .inl ⟨wk.stop s2 x0 rs2, ?_⟩
    have hsub : ∀ a ∈ s1.hid, a ∈ s2.hid := fun a ha => by rw [xh]; exact List.mem_cons_of_mem _ ha
    have hp2 : p ∈ s2.hid := by rw [xh]; exact List.mem_cons_self
    have x0' := x0.trans (Ext0.unhide hsub)
    refine h2 (s2.unhide s1.hid) (.ref p) ⟨x0'.pre, x0'.fz, rfl, xx⟩ (rs2.unhide hsub) rfl (mk_lst ⟨⟨fun z => ?_, fun hm => rs1.hid_ne hp hm rfl⟩, .inl hD⟩ (rva.ext0 (Ext0.unhide hsub)))
    obtain ⟨n, c, q1, _⟩ := z
    exact (rs2.hd p hp2).1 (List.mem_of_getElem? q1)
end
end Mp

set_option maxHeartbeats 4000000
/-! Mp5: built-in functions, methods of lists, repr, enumerate, dict displays, dicts compared. -/
namespace Mp
open PySem PySem.Spec PyProof.Rows L2

/-! ### calls of built-ins by values -/
def CallM (X : Cx) (f : Value) (g : FM) : Prop := ∃ r : List V → Hp → VK → Prop, CallR X f r ∧
  ∀ (s : Sg) (xs : List IV) (vs : List V) (E : XK) (Q : VK), RS X.K s → RVs X.K s xs vs → After X.K E s (g xs s.h) Q → r vs s.H Q
section
variable {X : Cx} {W : WX} {x : Str} {p pos : Pos} {e : Expr} {es : List Expr} {a : AM} {g : FM} {id T' : String}
theorem TA_.call {r : List V → Hp → VK → Prop} (hr : ∀ (s : Sg) (xs : List IV) (vs : List V) (E : XK) (Q : VK), RS X.K s → RVs X.K s xs vs → After X.K E s (g xs s.h) Q → r vs s.H Q)
    {σ : L2.St} {H : Hp} {Q : VK} (h : T X.K W (eCall g a) σ H Q) : tCB r (TA_ X.K W a) σ H Q := by
  obtain ⟨s, ρ, eh, rs, re, h⟩ := h
  subst eh
  exact TA_.bind rs re h fun xs s1 vs n h1 => hr s1 xs vs _ Q n.rs n.rv h1
/-- f(e, ..), f a built-in function -/
theorem se_callB (hc : CallM X (.builtin id) g) (hg : Gl X x) (hm : X.mg x = none) (hv : bootBuiltins x = some (.builtin id)) (ha : PA X (e :: es) (TA_ X.K W a)) (hn : x ≠ "__name__" := by decide) (hdb : (x == ("__debug__" : Str)) = false := by decide)
    (he : starEach (e :: es) X.env = (false, eval e X.env) :: starEach es X.env := by rfl) (hpl : (backTo pos (starEach es X.env)).any (·.1) = false := by rfl) : PE X (.Call (.Name x p) (e :: es) [] pos) (T X.K W (eCall g a)) := by
  obtain ⟨r, ho, hr⟩ := hc
  exact (pe_callB ho hg hm hv ha hn hdb he hpl).imp fun _ _ _ h => TA_.call hr h
/-- T(e, ..), T a built-in type -/
theorem se_callTy (hc : CallM X (.type T') g) (hg : Gl X x) (hm : X.mg x = none) (hv : bootBuiltins x = some (.type T')) (ha : PA X (e :: es) (TA_ X.K W a)) (hn : x ≠ "__name__" := by decide) (hdb : (x == ("__debug__" : Str)) = false := by decide)
    (he : starEach (e :: es) X.env = (false, eval e X.env) :: starEach es X.env := by rfl) (hpl : (backTo pos (starEach es X.env)).any (·.1) = false := by rfl) : PE X (.Call (.Name x p) (e :: es) [] pos) (T X.K W (eCall g a)) := by
  obtain ⟨r, ho, hr⟩ := hc
  exact (pe_callTy ho hg hm hv ha hn hdb he hpl).imp fun _ _ _ h => TA_.call hr h
end
theorem rvs_one {K : PySem.W.Frag} {s : Sg} {x : IV} {vs : List V} (h : RVs K s [x] vs) : ∃ v, vs = [v] ∧ RV K s x v := by
  simp only [Rvs] at h
  obtain ⟨z, zs, e, h1, h2⟩ := h
  exact ⟨z, by rw [e, h2], h1⟩
theorem rvs_two {K : PySem.W.Frag} {s : Sg} {x y : IV} {vs : List V} (h : RVs K s [x, y] vs) : ∃ v u, vs = [v, u] ∧ RV K s x v ∧ RV K s y u := by
  simp only [Rvs] at h
  obtain ⟨z, zs, e, h1, z2, zs2, e2, h2, h3⟩ := h
  exact ⟨z, z2, by rw [e, e2, h3], h1, h2⟩
def lenI (x : IV) (h : List Cell) : Option Nat := match asT x, asR x h with
  | some xs, _ => some xs.length
  | none, some xs => some xs.length
  | none, none => (match x with
    | .str z => if z.length ≤ sizeLine then some z.length else none
    | _ => none)
def gLen : FM := fun xs h => match xs with
  | [x] => (match lenI x h with
    | some n => .ok (.int n) h
    | none => .stuck)
  | _ => .stuck
def gInt : FM := fun xs h => match xs with
  | [.int i] => .ok (.int i) h
  | [.bl b] => .ok (.int (if b then 1 else 0)) h
  | _ => .stuck
def gAbs : FM := fun xs h => match xs with
  | [.int i] => .ok (.int (if i < 0 then -i else i)) h
  | _ => .stuck
def gMax : FM := fun xs h => match xs with
  | [.int i, .int j] => .ok (.int (if j > i then j else i)) h
  | _ => .stuck
def gMin : FM := fun xs h => match xs with
  | [.int i, .int j] => .ok (.int (if j < i then j else i)) h
  | _ => .stuck
def intsI : List IV → Option (List Int)
  | [] => some []
  | .int i :: xs => (intsI xs).map (i :: ·)
  | _ :: _ => none
def blsI : List IV → Option (List Bool)
  | [] => some []
  | .bl i :: xs => (blsI xs).map (i :: ·)
  | _ :: _ => none
def gSum : FM := fun xs h => match xs with
  | [x] => (match asR x h with
    | some ys => (match intsI ys with
      | some ns => .ok (.int ns.sum) h
      | none => .stuck)
    | none => .stuck)
  | _ => .stuck
def gAll : FM := fun xs h => match xs with
  | [x] => (match asR x h with
    | some ys => (match blsI ys with
      | some ns => .ok (.bl (ns.all id)) h
      | none => .stuck)
    | none => .stuck)
  | _ => .stuck
section
variable {K : PySem.W.Frag} {s : Sg}
theorem ints_rv : ∀ {xs : List IV} {vs : List V} {ns : List Int}, RVs K s xs vs → intsI xs = some ns → vs = ns.map V.int
  | [], vs, ns, h, e => by
    simp only [Rvs] at h
    simp only [intsI] at e
    cases e
    exact h
  | x :: xs, vs, ns, h, e => by
    simp only [Rvs] at h
    obtain ⟨z, zs, ez, h1, h2⟩ := h
    cases x with
    | int i =>
      simp only [intsI, Option.map_eq_some_iff] at e
      obtain ⟨ms, e1, e2⟩ := e
      rw [ez, rv_int h1, ints_rv h2 e1, ← e2]
      rfl
    | _ => simp only [intsI] at e; cases e
theorem bls_rv : ∀ {xs : List IV} {vs : List V} {ns : List Bool}, RVs K s xs vs → blsI xs = some ns → vs = ns.map V.bl
  | [], vs, ns, h, e => by
    simp only [Rvs] at h
    simp only [blsI] at e
    cases e
    exact h
  | x :: xs, vs, ns, h, e => by
    simp only [Rvs] at h
    obtain ⟨z, zs, ez, h1, h2⟩ := h
    cases x with
    | bl i =>
      simp only [blsI, Option.map_eq_some_iff] at e
      obtain ⟨ms, e1, e2⟩ := e
      rw [ez, rv_bl h1, bls_rv h2 e1, ← e2]
      rfl
    | _ => simp only [blsI] at e; cases e
end
section
variable {X : Cx}
theorem cm_len : CallM X (.builtin "len") gLen := by
  refine ⟨_, call_len, fun s xs vs E Q rs rx h => ?_⟩
  unfold gLen at h
  split at h
  · rename_i x
    obtain ⟨v, rfl, rv⟩ := rvs_one rx
    split at h
    · rename_i n e
      refine ⟨v, n, rfl, ?_, h.ret rs mk_int⟩
      unfold lenI at e
      split at e
      · rename_i ys e1
        cases e
        obtain ⟨a, us, rfl, h1, h2⟩ := asT_rv rv e1
        exact .inr ⟨us, h1, Rvs.length_ h2⟩
      · rename_i ys e1 e2
        cases e
        obtain ⟨a, us, rfl, h1, h2⟩ := asR_rv rs rv e2
        exact .inl ⟨us, h1, Rvs.length_ h2⟩
      · split at e
        · split at e
          · rename_i q
            cases e
            rw [rv_str rv]
            exact ⟨q, rfl⟩
          · cases e
        · cases e
    · exact h.elim
  · exact h.elim
theorem cm_int : CallM X (.type "int") gInt := by
  refine ⟨_, call_int1, fun s xs vs E Q rs rx h => ?_⟩
  unfold gInt at h
  split at h
  · obtain ⟨v, rfl, rv⟩ := rvs_one rx
    rw [rv_int rv]
    exact .inl ⟨_, rfl, h.ret rs mk_int⟩
  · obtain ⟨v, rfl, rv⟩ := rvs_one rx
    rw [rv_bl rv]
    exact .inr ⟨_, rfl, h.ret rs mk_int⟩
  · exact h.elim
theorem cm_abs : CallM X (.builtin "abs") gAbs := by
  refine ⟨_, call_abs, fun s xs vs E Q rs rx h => ?_⟩
  unfold gAbs at h
  split at h
  · obtain ⟨v, rfl, rv⟩ := rvs_one rx
    rw [rv_int rv]
    exact ⟨_, rfl, h.ret rs mk_int⟩
  · exact h.elim
theorem cm_max (hc : X.calm = true) : CallM X (.builtin "max") gMax := by
  refine ⟨_, call_max2 hc, fun s xs vs E Q rs rx h => ?_⟩
  unfold gMax at h
  split at h
  · obtain ⟨v, u, rfl, rv, ru⟩ := rvs_two rx
    rw [rv_int rv, rv_int ru]
    exact ⟨_, _, rfl, h.ret rs mk_int⟩
  · exact h.elim
theorem cm_min (hc : X.calm = true) : CallM X (.builtin "min") gMin := by
  refine ⟨_, call_min2 hc, fun s xs vs E Q rs rx h => ?_⟩
  unfold gMin at h
  split at h
  · obtain ⟨v, u, rfl, rv, ru⟩ := rvs_two rx
    rw [rv_int rv, rv_int ru]
    exact ⟨_, _, rfl, h.ret rs mk_int⟩
  · exact h.elim
theorem cm_sum (hc : X.calm = true) : CallM X (.builtin "sum") gSum := by
  refine ⟨_, cr_sum hc, fun s xs vs E Q rs rx h => ?_⟩
  unfold gSum at h
  split at h
  · obtain ⟨v, rfl, rv⟩ := rvs_one rx
    split at h
    · rename_i ys e
      split at h
      · rename_i ns e2
        obtain ⟨a, us, rfl, h1, h2⟩ := asR_rv rs rv e
        rw [ints_rv h2 e2] at h1
        exact ⟨a, ns, rfl, h1, h.ret rs mk_int⟩
      · exact h.elim
    · exact h.elim
  · exact h.elim
theorem cm_all (hc : X.calm = true) : CallM X (.builtin "all") gAll := by
  refine ⟨_, cr_all hc, fun s xs vs E Q rs rx h => ?_⟩
  unfold gAll at h
  split at h
  · obtain ⟨v, rfl, rv⟩ := rvs_one rx
    split at h
    · rename_i ys e
      split at h
      · rename_i ns e2
        obtain ⟨a, us, rfl, h1, h2⟩ := asR_rv rs rv e
        rw [bls_rv h2 e2] at h1
        exact ⟨a, ns, rfl, h1, h.ret rs mk_bl⟩
      · exact h.elim
    · exact h.elim
  · exact h.elim
end
/-! ### list(range(n)): a new frozen list -/
def eListRange (m : EM) : EM := fun ρ h => (m ρ h).bind fun x h1 => match x with
  | .int j => if -(2 ^ 62) ≤ j ∧ j ≤ 2 ^ 24 then .ok (.lst (rangeI 0 j)) h1 else .stuck
  | _ => .stuck
section
variable {X : Cx} {W : WX} {a : Expr} {m : EM} {p p2 pos pos2 : Pos}
theorem rvs_range {K : PySem.W.Frag} {s : Sg} (j : Int) : RVs K s (rangeI 0 j) (rgV 0 j) := by
  have go : ∀ l : List Nat, RVs K s (l.map fun (i : Nat) => IV.int (0 + (i : Int))) (l.map fun (i : Nat) => V.int (0 + (i : Int))) := fun l => by
    induction l with
    | nil => exact Rvs.nil_
    | cons n l ih =>
      simp only [List.map_cons, Rvs]
      exact ⟨_, _, rfl, mk_int, ih⟩
  unfold rangeI rgV
  exact go _
theorem se_listRange (hc : X.calm = true) (hg : Gl X "range") (hm : X.mg "range" = none) (hg2 : Gl X "list") (hm2 : X.mg "list" = none) (ha : PE X a (T X.K W m)) (na : starEach [a] X.env = (false, eval a X.env) :: starEach [] X.env := by rfl)
    (nb : starEach [(.Call (.Name "range" p) [a] [] pos : Expr)] X.env = (false, eval (.Call (.Name "range" p) [a] [] pos) X.env) :: starEach [] X.env := by rfl) :
    PE X (.Call (.Name "list" p2) [.Call (.Name "range" p) [a] [] pos] [] pos2) (T X.K W (eListRange m)) :=
  (pe_listRg hc hg2 hm2 (prg_1 hg hm ha na) nb).imp fun σ H Q ⟨s, ρ, eh, rs, re, h⟩ => by
    subst eh
    refine T.bind rs re h fun x s1 v n h1 => ?_
    split at h1
    · split at h1
      · rename_i j q
        rw [rv_int n.rv]
        refine ⟨j, rfl, ⟨by omega, by omega, by omega, by omega, by omega⟩, fun q hq => h1.put n.rs hq (mk_lst (Fz.put n.rs hq) (rvs_range j))⟩
      · exact h1.elim
    · exact h1.elim
end
/-! ### methods -/
/-- a value of a built-in type T -/
def tyI (T : String) (x : IV) (h : List Cell) : Bool := match T with
  | "list" => (asR x h).isSome
  | "str" => (match x with
    | .str _ => true
    | _ => false)
  | _ => false
theorem tyI_rv {K : PySem.W.Frag} {s : Sg} {T' : String} {x : IV} {v : V} (rs : RS K s) (h : RV K s x v) (e : tyI T' x s.h = true) : tyV K T' v s.H := by
  unfold tyI at e
  split at e
  · obtain ⟨xs, e1⟩ := Option.isSome_iff_exists.mp e
    obtain ⟨a, us, rfl, h1, _⟩ := asR_rv rs h e1
    exact .inl ⟨rfl, us, h1⟩
  · split at e
    · rw [rv_str h]
      rfl
    · cases e
  · cases e
def MethM (X : Cx) (T' id : String) (g : IV → List IV → List Cell → Res) : Prop := ∃ r : V → List V → Hp → VK → Prop, MtR X id r ∧
  ∀ (s : Sg) (x : IV) (v : V) (xs : List IV) (vs : List V) (E : XK) (Q : VK), RS X.K s → RV X.K s x v → RVs X.K s xs vs → After X.K E s (g x xs s.h) Q → r v vs s.H Q
def eMeth (T' : String) (m : EM) (a : AM) (g : IV → List IV → List Cell → Res) : EM := fun ρ h => (m ρ h).bind fun x h1 => if tyI T' x h1 then (a ρ h1).bind fun xs h2 => g x xs h2 else .stuck
section
variable {X : Cx} {W : WX} {o e : Expr} {es : List Expr} {m : EM} {a : AM} {g : IV → List IV → List Cell → Res} {T' id : String} {name : Str} {apos cpos : Pos}
theorem se_meth (hm : MethM X T' id g) (pa : PlainAttrs T') (slot : Slot T' name id) (hty : typeOf (.builtin id) = pure (.type "method_descriptor")) (ho : PE X o (T X.K W m)) (ha : PA X (e :: es) (TA_ X.K W a))
    (hbase : attributeBase o name X.env (eval o X.env) = eval o X.env := by rfl)
    (hfew : ((backTo cpos (starEach (e :: es) X.env)).all (fun x => !x.1) && (backToKw cpos (keywordEach [] X.env)).all (fun x => x.1.isSome)
      && decide ((e :: es).length + ([] : List Keyword).length + (if ([] : List Keyword).isEmpty then 0 else 1) < 30)) = true := by rfl)
    (hline : (apos.endLine == cpos.line) = true := by rfl) (hs : starEach (e :: es) X.env = (false, eval e X.env) :: starEach es X.env := by rfl) (hplain : (backTo cpos (starEach es X.env)).any (·.1) = false := by rfl) :
    PE X (.Call (.Attribute o name apos) (e :: es) [] cpos) (T X.K W (eMeth T' m a g)) := by
  obtain ⟨r, hr, hq⟩ := hm
  refine (pe_bm pa slot hty hr ho ha hbase hfew hline hs hplain).imp fun σ H Q ⟨s, ρ, eh, rs, re, h⟩ => ?_
  subst eh
  refine T.bind rs re h fun x s1 v n h1 => ?_
  split at h1
  · rename_i q
    refine ⟨tyI_rv n.rs n.rv q, TA_.bind n.rs n.re h1 fun xs s2 vs n2 h2 => ?_⟩
    exact hq s2 x v xs vs _ Q n2.rs (n.rv.ext n2.ext) n2.rv h2
  · exact h1.elim
end
/-- the list b is read, the list l grows -/
def rExtR (K : PySem.W.Frag) : V → List V → Hp → VK → Prop := fun x vs H Q => ∃ l b xs zs, x = .ref l ∧ vs = [.ref b] ∧ H l = some (.lst xs) ∧ Rd H b (.lst zs) ∧ xs.length + zs.length ≤ sizeLine ∧ Q .non (upd H l (.lst (xs ++ zs)))
theorem mt_extR {X : Cx} : MtR X "list.extend" (rExtR X.K) := by
  intro pins s σ H x vs v us Q I rx rv h
  obtain ⟨l, b, xs, zs, rfl, rfl, hH, hB, hz, q⟩ := h
  cases rx
  obtain ⟨u, rfl, ru⟩ := rv.one
  cases ru
  obtain ⟨_, its, n, r, hl, e⟩ := I.lstM hH
  obtain ⟨_, its2, n2, r2, e2⟩ := hB.ok I.hok
  have hl2 := r2.length
  have z1 : its.toArray.size = xs.length := by rw [List.size_toArray, hl]
  have z2 : its2.toArray.size = zs.length := by rw [List.size_toArray, hl2]
  refine call_meets F.slot_list_extend ⟨_, e, rfl⟩ F.entry_list_extend (F.args_list_extend_2 _ _)
    (AutoSeq1.list_extend_list_list_0 l its.toArray n b its2.toArray n2 ?_ (by omega) (by omega)) ⟨e, e2, .non, _, I.lset (its' := its ++ its2) hH e (by simp) (r.append r2) (by rw [List.length_append]; exact hz), rfl, q⟩
  rw [notLongL (by omega), Bool.and_false]
  exact Bool.false_ne_true
def gExtend : IV → List IV → List Cell → Res := fun x xs h => match x, xs with
  | .ref n, [y] => (match h[n]?, asL y h with
    | some (.lst xs), some ys => if xs.length + ys.length ≤ sizeLine then .ok .non (h.set n (.lst (xs ++ ys))) else .stuck
    | _, _ => .stuck)
  | _, _ => .stuck
def gAppend : IV → List IV → List Cell → Res := fun x xs h => match x, xs with
  | .ref n, [y] => (match h[n]? with
    | some (.lst xs) => if xs.length < sizeLine then .ok .non (h.set n (.lst (xs ++ [y]))) else .stuck
    | _ => .stuck)
  | _, _ => .stuck
section
variable {X : Cx}
theorem mm_extend : MethM X "list" "list.extend" gExtend := by
  refine ⟨_, mt_extR, fun s x v xs vs E Q rs rx rxs h => ?_⟩
  unfold gExtend at h
  split at h
  · rename_i n y
    obtain ⟨u, rfl, ru⟩ := rvs_one rxs
    obtain ⟨a, rfl, ea⟩ := rv_ref rx
    split at h
    · rename_i xs ys q1 q2
      split at h
      · rename_i hz
        obtain ⟨ws, h1, h2⟩ := cell_lst rs ea q1
        obtain ⟨b, us, rfl, k1, k2⟩ := asL_rv rs ru q2
        refine ⟨a, b, ws, us, rfl, rfl, h1, k1, by rw [← Rvs.length_ h2, ← Rvs.length_ k2]; exact hz, ?_⟩
        have e1 : Ext s (s.set n a (.lst (ws ++ us)) (.lst (xs ++ ys))) := Ext.set rs ea q1 (by simp)
        exact h _ .non e1 (rs.set ea q1 (by simp) ⟨_, rfl, (Rvs.append h2 k2).ext e1⟩) rfl mk_non
      · exact h.elim
    · exact h.elim
  · exact h.elim
theorem mm_append : MethM X "list" "list.append" gAppend := by
  refine ⟨_, mt_append, fun s x v xs vs E Q rs rx rxs h => ?_⟩
  unfold gAppend at h
  split at h
  · rename_i n y
    obtain ⟨u, rfl, ru⟩ := rvs_one rxs
    obtain ⟨a, rfl, ea⟩ := rv_ref rx
    split at h
    · rename_i xs q1
      split at h
      · rename_i hz
        obtain ⟨ws, h1, h2⟩ := cell_lst rs ea q1
        refine ⟨a, ws, u, rfl, rfl, h1, by rw [← Rvs.length_ h2]; exact hz, ?_⟩
        have e1 : Ext s (s.set n a (.lst (ws ++ [u])) (.lst (xs ++ [y]))) := Ext.set rs ea q1 (by simp)
        exact h _ .non e1 (rs.set ea q1 (by simp) ⟨_, rfl, (Rvs.append h2 (Rvs.one ru)).ext e1⟩) rfl mk_non
      · exact h.elim
    · exact h.elim
  · exact h.elim
end
end Mp

set_option maxHeartbeats 4000000
/-! Mp5b: list.index, list.count, repr, enumerate, dict displays, dicts compared. -/
namespace Mp
open PySem PySem.Spec PyProof.Rows L2

/-! ### index, count among None, bools, ints, texts -/
def idxI (y : IV) : List IV → Option Nat
  | [] => none
  | z :: zs => if eqI z y then some 0 else (idxI y zs).map (· + 1)
theorem idxI_at {y : IV} : ∀ {zs : List IV} {j : Nat}, idxI y zs = some j → ∃ z, zs[j]? = some z ∧ eqI z y = true ∧ ∀ (m : Nat) (z' : IV), m < j → zs[m]? = some z' → eqI z' y = false
  | [], j, h => by simp only [idxI] at h; cases h
  | z :: zs, j, h => by
    simp only [idxI] at h
    split at h
    · rename_i q
      cases h
      exact ⟨z, rfl, q, fun m z' hm => absurd hm (Nat.not_lt_zero _)⟩
    · rename_i q
      obtain ⟨i, h1, h2⟩ := Option.map_eq_some_iff.mp h
      obtain ⟨w, k1, k2, k3⟩ := idxI_at h1
      subst h2
      refine ⟨w, by simpa using k1, k2, fun m z' hm e => ?_⟩
      cases m with
      | zero =>
        simp at e
        rw [← e]
        simpa using q
      | succ m => exact k3 m z' (by omega) (by simpa using e)
def gIndex : IV → List IV → List Cell → Res := fun x xs h => match asL x h, xs with
  | some zs, [y] => if flatI y && zs.all flatI then (match idxI y zs with
    | some j => .ok (.int j) h
    | none => .stuck) else .stuck
  | _, _ => .stuck
def gCount : IV → List IV → List Cell → Res := fun x xs h => match asL x h, xs with
  | some zs, [y] => if flatI y && zs.all flatI then .ok (.int (zs.countP fun z => eqI z y : Nat)) h else .stuck
  | _, _ => .stuck
theorem Rvs.back {K : PySem.W.Frag} {s : Sg} : ∀ {xs : List IV} {vs : List V} {i : Nat} {v : V}, RVs K s xs vs → vs[i]? = some v → ∃ x, xs[i]? = some x ∧ RV K s x v
  | [], vs, i, v, h, e => by
    simp only [Rvs] at h
    subst h
    simp at e
  | x :: xs, vs, i, v, h, e => by
    simp only [Rvs] at h
    obtain ⟨z, zs, ez, h1, h2⟩ := h
    subst ez
    cases i with
    | zero =>
      simp at e
      subst e
      exact ⟨x, rfl, h1⟩
    | succ i =>
      obtain ⟨w, q1, q2⟩ := Rvs.back h2 (by simpa using e)
      exact ⟨w, by simpa using q1, q2⟩
theorem all_at {xs : List IV} {p : IV → Bool} (f : xs.all p = true) {i : Nat} {x : IV} (h : xs[i]? = some x) : p x = true := List.all_eq_true.mp f x (List.mem_of_getElem? h)
def rCntF (K : PySem.W.Frag) : V → List V → Hp → VK → Prop := fun x xs H Q => ∃ (a : Addr) (ys : List V) (y : V), x = V.ref a ∧ xs = [y] ∧ SqL K H a ys ∧ flatV y = true ∧ ys.all flatV = true ∧ Q (.int (ys.countP fun z => eqV z y : Nat)) H
theorem countU {y : V} : ∀ {ys : List V} {us : List Value}, Vals ys us → ys.all flatV = true → us.countP (eqU y) = ys.countP fun z => eqV z y
  | [], _, .nil, _ => rfl
  | z :: ys, u :: us, .cons r t, f => by
    rw [List.all_cons, Bool.and_eq_true] at f
    rw [List.countP_cons, List.countP_cons, countU t f.2, eqU_of r f.1]
section
variable {X : Cx}
theorem mt_countF : MtR X "list.count" (rCntF X.K) := by
  intro pins s σ H x xs v us Q I rx rxs h
  obtain ⟨a, ys, y, rfl, rfl, hs, fy, fys, q⟩ := h
  cases rx
  obtain ⟨uy, rfl, ry⟩ := rxs.one
  obtain ⟨its, rv, ⟨⟨cls, dd, data, sl⟩, n, ho, hc, hdn, hd⟩, hlen⟩ := I.list hs
  simp only at hc hd
  subst hc hd
  refine call_meets PySem.F.slot_list_count ⟨_, ho, rfl⟩ PySem.F.entry_list_count (PySem.F.args_list_count_2 _ _)
    (SeqAt.list_countAt a its.toArray n dd sl uy (eqU y)) ⟨ho, fun u' hu' => mem_eqAt ry fy rv fys u' (by simpa using hu'), ?_⟩
  have e : its.toArray.toList.countP (eqU y) = ys.countP fun z => eqV z y := countU rv fys
  refine ⟨.int (ys.countP fun z => eqV z y : Nat), H, I.tok _, ⟨s.toks, ?_⟩, q⟩
  show Value.int ((its.toArray.toList.countP (eqU y) : Nat) : Int) s.toks = Value.int ((ys.countP fun z => eqV z y : Nat) : Int) s.toks
  rw [e]
theorem mm_index : MethM X "list" "list.index" gIndex := by
  refine ⟨_, mt_index, fun s x v xs vs E Q rs rx rxs h => ?_⟩
  unfold gIndex at h
  split at h
  · rename_i zs y e
    obtain ⟨u, rfl, ru⟩ := rvs_one rxs
    obtain ⟨a, ws, rfl, h1, h2⟩ := asL_rv rs rx e
    split at h
    · rename_i q
      obtain ⟨q1, q2⟩ := Bool.and_eq_true_iff.mp q
      split at h
      · rename_i j hj
        obtain ⟨z, k1, k2, k3⟩ := idxI_at hj
        obtain ⟨w, w1, w2⟩ := Rvs.at_ h2 k1
        refine ⟨a, ws, u, j, w, rfl, rfl, .inl h1, flat_rv ru q1, flats_rv h2 q2, w1, by rw [eq_rv w2 ru (all_at q2 k1) q1]; exact k2, fun m w' hm hw' => ?_, h.ret rs mk_int⟩
        obtain ⟨z', z1, z2⟩ := Rvs.back h2 hw'
        rw [eq_rv z2 ru (all_at q2 z1) q1]
        exact k3 m z' hm z1
      · exact h.elim
    · exact h.elim
  · exact h.elim
theorem count_rv {K : PySem.W.Frag} {s : Sg} {y : IV} {u : V} (k : RV K s y u) (g : flatI y = true) : ∀ {xs : List IV} {vs : List V}, RVs K s xs vs → xs.all flatI = true → (vs.countP fun z => eqV z u) = xs.countP fun z => eqI z y
  | [], vs, h, _ => by
    simp only [Rvs] at h
    subst h
    rfl
  | x :: xs, vs, h, f => by
    simp only [Rvs] at h
    obtain ⟨z, zs, e, h1, h2⟩ := h
    subst e
    rw [List.all_cons, Bool.and_eq_true] at f
    rw [List.countP_cons, List.countP_cons, count_rv k g h2 f.2, eq_rv h1 k f.1 g]
theorem mm_count : MethM X "list" "list.count" gCount := by
  refine ⟨_, mt_countF, fun s x v xs vs E Q rs rx rxs h => ?_⟩
  unfold gCount at h
  split at h
  · rename_i zs y e
    obtain ⟨u, rfl, ru⟩ := rvs_one rxs
    obtain ⟨a, ws, rfl, h1, h2⟩ := asL_rv rs rx e
    split at h
    · rename_i q
      obtain ⟨q1, q2⟩ := Bool.and_eq_true_iff.mp q
      exact ⟨a, ws, u, rfl, rfl, .inl h1, flat_rv ru q1, flats_rv h2 q2, by rw [count_rv ru q1 h2 q2]; exact h.ret rs mk_int⟩
    · exact h.elim
  · exact h.elim
end
/-! ### enumerate -/
def enumI (n : Nat) : List IV → List IV
  | [] => []
  | x :: xs => .tup [.int n, x] :: enumI (n + 1) xs
theorem enumI_len : ∀ (xs : List IV) (n : Nat), (enumI n xs).length = xs.length
  | [], _ => rfl
  | x :: xs, n => congrArg (· + 1) (enumI_len xs (n + 1))
theorem enumI_at : ∀ (xs : List IV) (n i : Nat) (x : IV), xs[i]? = some x → (enumI n xs)[i]? = some (.tup [.int ((n + i : Nat) : Int), x])
  | [], _, i, x, h => by simp at h
  | y :: xs, n, 0, x, h => by
    simp at h
    rw [h]
    rfl
  | y :: xs, n, i + 1, x, h => by
    have ih := enumI_at xs (n + 1) i x (by simpa using h)
    rw [show n + 1 + i = n + (i + 1) by omega] at ih
    simpa [enumI] using ih
def wEnum (m : EM) : WM := fun ρ h => (m ρ h).bindL fun x h1 => match x with
  | .lst xs => .ok (enumI 0 xs) h1
  | _ => .stuck
theorem walks_enum {K : PySem.W.Frag} {s : Sg} {a : Addr} {vs : List V} {xs : List IV} (h : Fz s a (.lst vs)) (r : RVs K s xs vs) : Walks_ K s (Ite K a) (enumI 0 xs) where
  go := fun s' i e rs hi => by
    rw [enumI_len] at hi
    obtain ⟨v, q, _⟩ := Rvs.at_ r (List.getElem?_eq_getElem hi)
    exact ⟨vs, v, .inl (e.fz _ _ h).2, q⟩
  yld := fun s' i v H' e rs hi ⟨p, x, e1, hp, e2, hx⟩ => by
    rw [enumI_len] at hi
    obtain ⟨v', q, rv⟩ := Rvs.at_ r (List.getElem?_eq_getElem hi)
    have ev : v' = x := Option.some.inj (q.symm.trans (hx vs (.inl (e.fz _ _ h).2)))
    subst ev
    have e1' : Ext s' (s'.put p (.tup [.int (i : Nat), v'])) := Ext.put rs hp
    refine ⟨s'.put p (.tup [.int (i : Nat), v']), .tup [.int (i : Nat), xs[i]], e2.symm, e1', rs.put hp, rfl, ?_, ?_⟩
    · have z := enumI_at xs 0 i _ (List.getElem?_eq_getElem hi)
      rw [Nat.zero_add] at z
      exact z
    · rw [e1]
      refine mk_tup (Fz.put rs hp) ?_
      simp only [Rvs]
      exact ⟨_, _, rfl, mk_int, _, _, rfl, (rv.ext0 e).ext e1', rfl⟩
  stop := fun s' e rs => ⟨vs, .inl (e.fz _ _ h).2, by rw [enumI_len]; exact Nat.le_of_eq (Rvs.length_ r).symm⟩
theorem si_enum {X : Cx} {W : WX} {e : Expr} {m : EM} {p pos tpos : Pos} {elts : List Expr} {kk : Nat} (hg : Gl X "enumerate") (hm : X.mg "enumerate" = none) (ha : PE X e (T X.K W m)) (hs : starEach [e] X.env = [(false, eval e X.env)] := by rfl) :
    PI X (.Tuple elts kk tpos) (.Call (.Name "enumerate" p) [e] [] pos) (TI_ X.K W (wEnum m)) :=
  PI.imp (pi_enum hg hm (pa_cons ha pa_nil hs) hs) fun σ H R ⟨s, ρ, eh, rs, re, h⟩ => by
    subst eh
    refine T.bindW rs re h fun x s1 v n1 h1 => ?_
    split at h1
    · have rv := n1.rv
      simp only [Rv] at rv
      obtain ⟨a, vs, rfl, q1, q2⟩ := rv
      exact ⟨a, vs, rfl, .inl q1.2, h1.go n1.rs (walks_enum q1 q2)⟩
    · exact h1.elim
/-! ### dicts whose keys are ints and texts -/
def isKey : IV → Bool
  | .int _ => true
  | .str _ => true
  | _ => false
section
variable {X : Cx} {W : WX} {pos : Pos}
/-- {}: a dict that stays empty -/
theorem se_dict0 : PE X (.Dict [] [] pos) (T X.K W (eC (.dic [] []))) := pe_dnewK.imp fun σ H Q ⟨s, ρ, eh, rs, re, h⟩ => by
  subst eh
  intro p hp
  refine After.put (x := .dic [] []) h rs hp ?_
  simp only [Rv]
  exact ⟨p, rfl, .inl ⟨[], Fz.put rs hp, rfl, by simp only [Rvs]; rfl⟩⟩
/-- {'k': i} -/
theorem se_dict1 {z : Str} {i : Int} {j j2 : Nat} {p1 p2 : Pos} : PE X (.Dict [some (.Constant (.str z) j p1)] [.Constant (.int i) j2 p2] pos) (T X.K W (eC (.dic [.str z] [.int i]))) :=
  (pe_disp (pps_cons (pe_str (x := z)) (pe_int (i := i)) pps_nil) rfl rfl (by simp) (by simp)).imp fun σ H Q ⟨s, ρ, eh, rs, re, h⟩ => by
    subst eh
    intro p hp
    refine ⟨upd_same, [(.inr z, .int i)], rfl, (show 1 ≤ 15 by decide), ?_⟩
    have e : upd (upd s.H p (.dK [])) p (.dK (mergeK [] [((.inr z : Key), V.int i)])) = upd s.H p (.dK [((.inr z : Key), V.int i)]) := by
      funext b
      by_cases hb : b = p
      · rw [hb, upd_same, upd_same]
        rfl
      · rw [upd_ne hb, upd_ne hb, upd_ne hb]
    rw [e]
    refine After.put (x := .dic [.str z] [.int i]) h rs hp ?_
    simp only [Rv]
    exact ⟨p, rfl, .inl ⟨_, Fz.put rs hp, rfl, Rvs.one mk_int⟩⟩
end
theorem keys_nil {kvs : List (List Key × V)} (h : (kvs.map fun p => IV.tup (p.1.map keyIV)).all isKey = true) : kvs = [] := by
  cases kvs with
  | nil => rfl
  | cons p r => simp [isKey] at h
theorem dic_of {X : Cx} {pins : List (Addr × Obj)} {σ : L2.St} {s : Sg} {sh : Shared} {ks vs : List IV} {v : V} (I : Inv X pins σ s.H sh) (h : RV X.K s (.dic ks vs) v) (hk : ks.all isKey = true) :
    ∃ (a : Addr) (kvs : List (Key × V)) (us : List (Key × Value)), v = .ref a ∧ (a == sysModules) = false ∧ KV kvs us ∧ sh.heap.DictOf (mixKind X.prog X.w) a us ∧ ks = kvs.map (fun p => keyIV p.1) ∧ RVs X.K s vs (kvs.map (·.2)) := by
  simp only [Rv] at h
  obtain ⟨a, rfl, h⟩ := h
  rcases h with ⟨kvs, q1, q2, q3⟩ | ⟨kvs, q1, q2, q3⟩
  · obtain ⟨_, y, us, r, d⟩ := (show ObjOk X.prog X.w s.H sh.heap a (.dK kvs) from q1.2.ok I.hok)
    exact ⟨a, kvs, us, rfl, y, r, d, q2, q3⟩
  · rw [q2] at hk
    have e := keys_nil hk
    subst e
    obtain ⟨_, y, us, r, o, es, ep, g1, g2, g3, g4, g5⟩ := (show ObjOk X.prog X.w s.H sh.heap a (.dT []) from q1.2.ok I.hok)
    cases r
    have e0 : es = #[] := by
      obtain ⟨l⟩ := es
      simp at g4
      rw [g4]
    subst e0
    exact ⟨a, [], [], rfl, y, .nil, ⟨o, #[], ep, g1, g2, g3, fun e he => absurd he (by simp), .nil, List.nodup_nil⟩, q2, q3⟩
/-- the same, the same way -/
def sEq : IV → IV → Bool
  | .non, .non => true
  | .bl a, .bl b => a == b
  | .int a, .int b => a == b
  | .str a, .str b => a == b
  | _, _ => false
def sEqs : List IV → List IV → Bool
  | [], [] => true
  | x :: xs, y :: ys => sEq x y && sEqs xs ys
  | _, _ => false
theorem sEq_rv {K : PySem.W.Frag} {s : Sg} {x y : IV} {v u : V} (h : RV K s x v) (k : RV K s y u) (e : sEq x y = true) : v = u ∧ flatB v = true := by
  cases x with
  | non => cases y with
    | non => rw [rv_non h, rv_non k]; exact ⟨rfl, rfl⟩
    | _ => cases e
  | bl a => cases y with
    | bl b => rw [rv_bl h, rv_bl k, eq_of_beq (show (a == b) = true from e)]; exact ⟨rfl, rfl⟩
    | _ => cases e
  | int a => cases y with
    | int b => rw [rv_int h, rv_int k, eq_of_beq (show (a == b) = true from e)]; exact ⟨rfl, rfl⟩
    | _ => cases e
  | str a => cases y with
    | str b => rw [rv_str h, rv_str k, eq_of_beq (show (a == b) = true from e)]; exact ⟨rfl, rfl⟩
    | _ => cases e
  | _ => cases e
theorem sEqs_rv {K : PySem.W.Frag} {s : Sg} : ∀ {xs ys : List IV} {vs us : List V}, RVs K s xs vs → RVs K s ys us → sEqs xs ys = true → vs = us ∧ ∀ v ∈ vs, flatB v = true
  | [], [], vs, us, h, k, _ => by
    simp only [Rvs] at h k
    rw [h, k]
    exact ⟨rfl, fun v hv => absurd hv (by simp)⟩
  | x :: xs, y :: ys, vs, us, h, k, e => by
    simp only [Rvs] at h k
    obtain ⟨z, zs, e1, h1, h2⟩ := h
    obtain ⟨w, ws, e2, k1, k2⟩ := k
    simp only [sEqs, Bool.and_eq_true] at e
    obtain ⟨q1, q2⟩ := sEq_rv h1 k1 e.1
    obtain ⟨q3, q4⟩ := sEqs_rv h2 k2 e.2
    rw [e1, e2, q1, q3]
    rw [q1] at q2
    rw [q3] at q4
    exact ⟨rfl, fun v hv => (List.mem_cons.mp hv).elim (fun z => by rw [z]; exact q2) (q4 v)⟩
  | [], _ :: _, _, _, _, _, e => by cases e
  | _ :: _, [], _, _, _, _, e => by cases e
theorem keyIV_inj {k l : Key} (h : sEq (keyIV k) (keyIV l) = true) : k = l := by
  cases k with
  | inl i => cases l with
    | inl j => rw [eq_of_beq (show (i == j) = true from h)]
    | inr y => cases h
  | inr x => cases l with
    | inl j => cases h
    | inr y => rw [eq_of_beq (show (x == y) = true from h)]
theorem keys_same : ∀ {kvs lvs : List (Key × V)}, sEqs (kvs.map fun p => keyIV p.1) (lvs.map fun p => keyIV p.1) = true → kvs.map (·.1) = lvs.map (·.1)
  | [], [], _ => rfl
  | p :: kvs, q :: lvs, h => by
    simp only [List.map_cons, sEqs, Bool.and_eq_true] at h
    rw [List.map_cons, List.map_cons, keyIV_inj h.1, keys_same h.2]
  | [], _ :: _, h => by cases h
  | _ :: _, [], h => by cases h
theorem pairs_same {α β : Type} : ∀ {l m : List (α × β)}, l.map (·.1) = m.map (·.1) → l.map (·.2) = m.map (·.2) → l = m
  | [], [], _, _ => rfl
  | (a, b) :: l, (c, d) :: m, h, k => by
    simp only [List.map_cons, List.cons.injEq] at h k
    rw [h.1, k.1, pairs_same h.2 k.2]
  | [], _ :: _, h, _ => by cases h
  | _ :: _, [], h, _ => by cases h
theorem kv_keys {kvs : List (Key × V)} {us : List (Key × Value)} (h : KV kvs us) : kvs.map (·.1) = us.map (·.1) := by
  unfold KV at h
  induction h with
  | nil => rfl
  | cons h _ ih => rw [List.map_cons, List.map_cons, h.1, ih]
def gEqD (neg : Bool) : M2 := fun x y h => match x, y with
  | .dic ks vs, .dic ls ws => if ks.all isKey && ls.all isKey && sEqs ks ls && sEqs vs ws then .ok (.bl (!neg)) h else .stuck
  | _, _ => .stuck
theorem om_eqDic {X : Cx} {op : CmpOp} (neg : Bool) (hop : (op = .Eq ∧ neg = false) ∨ (op = .NotEq ∧ neg = true)) (hu : X.A.units < cLine) : OpM X (compareOp op) (gEqD neg) := by
  refine ⟨fun v u H Q => ∃ (s : Sg) (ks vs ls ws : List IV), s.H = H ∧ RV X.K s (.dic ks vs) v ∧ RV X.K s (.dic ls ws) u ∧ ks.all isKey = true ∧ ls.all isKey = true ∧ sEqs ks ls = true ∧ sEqs vs ws = true ∧ Q (.bl (!neg)) H, ?_, ?_⟩
  · intro pins sh σ H x y v u Q I rx ry ⟨s, ks, vs, ls, ws, eh, h1, h2, k1, k2, k3, k4, q⟩
    subst eh
    obtain ⟨a, kvs, us, rfl, ya, ra, da, ea, va⟩ := dic_of I h1 k1
    obtain ⟨b, lvs, us2, rfl, yb, rb, db, eb, vb⟩ := dic_of I h2 k2
    obtain rfl : v = Value.ref a := rx
    obtain rfl : u = Value.ref b := ry
    rw [ea, eb] at k3
    obtain ⟨e1, e2⟩ := sEqs_rv va vb k4
    have e : kvs = lvs := pairs_same (keys_same k3) e1
    subst e
    have hl : us.length = us2.length := by
      have z1 := congrArg List.length (kv_keys ra)
      have z2 := congrArg List.length (kv_keys rb)
      simp only [List.length_map] at z1 z2
      omega
    have nd : (kvs.map (·.1)).Nodup := by
      rw [kv_keys ra]
      exact da.choose_spec.choose_spec.choose_spec.2.2.2.2.2
    have hits : PySem.W.KeqHits X.A.in1 sh us2 us true := hits_all rb ra fun p hp => ⟨val_nodup nd p hp, e2 _ (List.mem_map.mpr ⟨p, hp, rfl⟩)⟩
    rcases hop with ⟨rfl, rfl⟩ | ⟨rfl, rfl⟩
    · exact PySem.W.keq_eq (knd := mixKind X.prog X.w) (r := true) ya yb da db hu (fun _ => hits) (fin_bl I q (by simp [hl]))
    · exact PySem.W.keq_ne (knd := mixKind X.prog X.w) (r := true) ya yb da db hu (fun _ => hits) (fin_bl I q (by simp [hl]))
  · intro s x y v u E Q rs rx ry h
    unfold gEqD at h
    split at h
    · rename_i ks vs ls ws
      split at h
      · rename_i q
        simp only [Bool.and_eq_true] at q
        exact ⟨s, ks, vs, ls, ws, rfl, rx, ry, q.1.1.1, q.1.1.2, q.1.2, q.2, h.ret rs mk_bl⟩
      · exact h.elim
    · exact h.elim
/-! ### repr -/
def fD : IV → PyData
  | .bl b => .bool b
  | .int i => .int i
  | .str z => .str z
  | _ => .none
def toP (x : IV) (h : List Cell) : Option PyData := match x with
  | .dic ks vs => if ks.all isKey && vs.all flatI && decide (ks.length = vs.length) then some (.dict ((ks.map fD).zip (vs.map fD))) else none
  | x => (match toDc x h with
    | some d => if SeqAt.shaped d then some d else none
    | none => none)
theorem reads_flat {K : PySem.W.Frag} {s : Sg} {h : Heap} {x : IV} {v : V} {u : Value} (r : RV K s x v) (f : flatI x = true) (ru : RelV v u) : Reads h u (fD x) [] := by
  cases x with
  | non =>
    rw [rv_non r] at ru
    cases (show u = Value.none from ru)
    exact .none
  | bl b =>
    rw [rv_bl r] at ru
    cases (show u = Value.bool b from ru)
    exact .bool b
  | int i =>
    rw [rv_int r] at ru
    obtain ⟨t, rfl⟩ := (show ∃ t, u = Value.int i t from ru)
    exact .int i t
  | str z =>
    rw [rv_str r] at ru
    obtain ⟨t, rfl⟩ := (show ∃ t, u = Value.str z t from ru)
    exact .str z t
  | _ => cases f
theorem pairs_reads {P : Program} {w : World} {K : PySem.W.Frag} {s : Sg} {h : Heap} : ∀ {kvs : List (Key × V)} {us : List (Key × Value)} {es : List DictEntry} {vs : List IV}, KV kvs us → Pairs (mixKind P w) es us → RVs K s vs (kvs.map (·.2)) → vs.all flatI = true →
    ReadsAll h (es.map (·.key)) ((kvs.map fun p => keyIV p.1).map fD) [] ∧ ReadsAll h (es.map (·.val)) (vs.map fD) []
  | [], [], [], vs, _, _, r, _ => by
    have e : vs = [] := by
      cases vs with
      | nil => rfl
      | cons x xs =>
        simp only [Rvs, List.map_nil] at r
        obtain ⟨z, zs, e, _⟩ := r
        cases e
    subst e
    exact ⟨.nil, .nil⟩
  | p :: kvs, q :: us, e :: es, vs, .cons h1 h2, .cons k1 k2 k3, r, f => by
    cases vs with
    | nil => simp only [Rvs, List.map_cons] at r; cases r
    | cons x xs =>
      simp only [Rvs, List.map_cons] at r
      obtain ⟨z, zs, e1, r1, r2⟩ := r
      cases e1
      rw [List.all_cons, Bool.and_eq_true] at f
      obtain ⟨i1, i2⟩ := pairs_reads h2 k3 r2 f.2
      refine ⟨ReadsAll.cons (as := []) (bs := []) ?_ i1, ReadsAll.cons (as := []) (bs := []) (reads_flat r1 f.1 (by show RelV p.snd e.val; rw [k2]; exact h1.2)) i2⟩
      show Reads h e.key (fD (keyIV p.1)) []
      rw [h1.1]
      rcases keyIs_shape (show keyIs q.1 e.key = true from k1) with ⟨i, t, z1, z2⟩ | ⟨y, t, z1, z2⟩
      · rw [z1, z2]
        exact .int i t
      · rw [z1, z2]
        exact .str y t
theorem reads_toP {X : Cx} {pins : List (Addr × Obj)} {σ : L2.St} {s : Sg} {sh : Shared} {x : IV} {v : V} {u : Value} {d : PyData} (I : Inv X pins σ s.H sh) (rs : RS X.K s) (h : RV X.K s x v) (ru : RelV v u) (e : toP x s.h = some d) :
    ∃ as, Reads sh.heap u d as ∧ (d.hasDict = true → sysModules ∉ as) := by
  unfold toP at e
  split at e
  · rename_i ks vs
    split at e
    · rename_i q
      simp only [Bool.and_eq_true, decide_eq_true_eq] at q
      cases e
      obtain ⟨a, kvs, us, rfl, ya, ra, da, ea, va⟩ := dic_of I h q.1.1
      obtain rfl : u = Value.ref a := ru
      obtain ⟨o, es, ep, g1, g2, g3, g4, g5, g6⟩ := da
      obtain ⟨i1, i2⟩ := pairs_reads (h := sh.heap) ra g5 va q.1.2
      have hl : (ks.map fD).length = (vs.map fD).length := by rw [List.length_map, List.length_map, q.2]
      refine ⟨a :: [] ++ [], Reads.dict g1 g2.1 g3 ?_ ?_, fun _ hm => ?_⟩
      · rw [List.map_fst_zip (Nat.le_of_eq hl), ea]
        exact i1
      · rw [List.map_snd_zip (Nat.le_of_eq hl.symm)]
        exact i2
      · have z : sysModules = a := by simpa using hm
        rw [z] at ya
        simp at ya
    · cases e
  · split at e
    · rename_i d' e1
      split at e
      · rename_i q
        cases e
        obtain ⟨as, r⟩ := Dp.reads I d v u (toDc_dp rs h e1) ru
        exact ⟨as, r, PyData.noDict_hsm (PyData.hasDict_of_canLay _ (SeqAt.canLay_of_shaped q))⟩
      · cases e
    · cases e
def gRepr : FM := fun xs h => match xs with
  | [x] => (match toP x h with
    | some d => if d.showable && decide (d.shown.length ≤ sizeLine) && decide (d.depth ≤ 60) then .ok (.str d.shown) h else .stuck
    | none => .stuck)
  | _ => .stuck
theorem cm_repr {X : Cx} {k : Nat} (hr : RG k X.A) : CallM X (.builtin "repr") gRepr := by
  refine ⟨fun vs H Q => ∃ (s : Sg) (x : IV) (v : V) (d : PyData), s.H = H ∧ RS X.K s ∧ vs = [v] ∧ RV X.K s x v ∧ toP x s.h = some d ∧ d.showable = true ∧ d.shown.length ≤ sizeLine ∧ d.depth ≤ 60 ∧ Q (.str d.shown) H, ?_, ?_⟩
  · intro pins sh σ H vs us Q I rvs ⟨s, x, v, d, eh, rs, ev, rv, e, h1, h2, h3, q⟩
    subst eh ev
    obtain ⟨u, rfl, ru⟩ := rvs.one
    obtain ⟨as, r, hsm⟩ := reads_toP I rs rv ru e
    have hun := hr.room.un
    cases r with
    | none => exact PySem.P.repr_of_none ⟨.str _, _, I.tok _, ⟨_, rfl⟩, q⟩
    | bool b => exact PySem.P.repr_of_bool ⟨.str _, _, I.tok _, ⟨_, rfl⟩, q⟩
    | int i t => exact PySem.P.repr_of_int (by simpa only [PyData.showable, decide_eq_true_eq] using h1) ⟨.str _, _, I.tok _, ⟨_, rfl⟩, q⟩
    | str z t => exact PySem.P.repr_of_str ⟨.str _, _, I.tok _, ⟨_, rfl⟩, q⟩ h2
    | list g1 g2 g3 g4 => exact repr_of_reads' (Reads.list g1 g2 g3 g4) h1 hsm hr.gs (by omega) (fun _ _ z => z) (fun h' u tk hk => ⟨.str _, _, I.kept hk, ⟨_, rfl⟩, q⟩) h2
    | tuple g1 g2 g3 g4 => exact repr_of_reads' (Reads.tuple g1 g2 g3 g4) h1 hsm hr.gs (by omega) (fun _ _ z => z) (fun h' u tk hk => ⟨.str _, _, I.kept hk, ⟨_, rfl⟩, q⟩) h2
    | dict g1 g2 g3 g4 g5 => exact repr_of_reads' (Reads.dict g1 g2 g3 g4 g5) h1 hsm hr.gs (by omega) (fun _ _ z => z) (fun h' u tk hk => ⟨.str _, _, I.kept hk, ⟨_, rfl⟩, q⟩) h2
  · intro s xs vs E Q rs rx h
    unfold gRepr at h
    split at h
    · rename_i x
      obtain ⟨v, rfl, rv⟩ := rvs_one rx
      split at h
      · rename_i d e
        split at h
        · rename_i q
          simp only [Bool.and_eq_true, decide_eq_true_eq] at q
          exact ⟨s, x, v, d, rfl, rs, rfl, rv, e, q.1.1, q.1.2, q.2, h.ret rs mk_str⟩
        · exact h.elim
      · exact h.elim
    · exact h.elim
end Mp

set_option maxHeartbeats 4000000
/-! Mp6: errors of own classes that hold a value (super().__init__(value); self.value = value): made, read, asked of. -/
namespace Mp
open PySem PySem.Spec PyProof.Rows L2 PySem.W

/-! ### the text of RollError.__init__ -/
def riA (p1 p2 : Pos) : Arguments := { posonlyargs := [], args := [{ arg := "self", annotation := none, pos := p1 }, { arg := "value", annotation := none, pos := p2 }], vararg := none, kwonlyargs := [], kw_defaults := [], kwarg := none, defaults := [] }
def riB (p0 p1 p2 p3 p4 p5 q1 q2 q3 q4 : Pos) : List Stmt := [.Expr (.Call (.Attribute (.Call (.Name "super" p0) [] [] p1) "__init__" p2) [.Name "value" p3] [] p4) p5, .Assign [.Attribute (.Name "self" q1) "value" q2] (.Name "value" q3) q4]
def riS : Scope := { kind := .function, names := [(PySem.Str.ofString "self", .local), (PySem.Str.ofString "value", .local), (PySem.Str.ofString "__class__", .free), (PySem.Str.ofString "super", .globalImplicit)], isGenerator := false, isCoroutine := false, more := [] }
/-- what the written part says of the root D of the errors: its __init__ at f, the function's code object at cd, its cell of __class__ at cc -/
structure RootT (prog : Program) (K : PySem.W.Frag) (D f cc cd : Addr) : Prop where
  fn : ∃ (oc : Value) (od : Option Addr) (doc pm : Value) (an : Option Addr) (ct : Value) (osl : Array (Option Value)) (n1 n2 p0 p1 p2 p3 p4 p5 q1 q2 q3 q4 : Pos),
    (p2.endLine == p4.line) = true ∧ K.lookup f = some ⟨oc, od, .func (ksFn "__init__" "RollError.__init__" (riA n1 n2) (riB p0 p1 p2 p3 p4 p5 q1 q2 q3 q4) riS .none .none doc pm an (.ref cd) ct cc), osl⟩ ∧ codeIn K (.ref cd) "RollError.__init__" = true
  co : ∃ (c : Value) (d : Option Addr) (vs : Array Value) (sl : Array (Option Value)) (file : Str) (tf : Tok), K.lookup cd = some ⟨c, d, .fields vs, sl⟩ ∧ vs[2]? = some (.str file tf) ∧ ((prog.main.file : Str) == file) = true
  ce : ∃ (c : Value) (d : Option Addr) (sl : Array (Option Value)), K.lookup cc = some ⟨c, d, .cell (some (.ref D)), sl⟩
  cD : ∃ x, clsIn K D = some x
  tp : nsIn K cStatics "thirdparty.any" = some none
  mn : (prog.main.scope.names.lookup ("super" : Str)).isSome = false
/-- what it says of a class C of errors under D -/
structure ErrT (K : PySem.W.Frag) (D f C : Addr) : Prop where
  cls : ∃ nm q N bs bm sn sub ab col dd k0 k1 k2 k3 k5, K.lookup C = some (excClassObj nm q C N bs bm true sn sub ab col dd k0 k1 k2 k3 k5 "ValueError.__new__") ∧ HandSPX.refsVE bm = true
  up : mroIn K C (.ref D) = some true
  su : ks_superIn K C D "__init__" = some (some (.builtin "ValueError.__init__"))
  sV : subIn K (.ref C) (.type "ValueError") = some true
  sa : findIn K (.ref C) "__setattr__" = some (some (.builtin "object.__setattr__"))
  ga : findIn K (.ref C) "__getattribute__" = some (some (.builtin "BaseException.__getattribute__"))
  gg : findIn K (.ref C) "__getattr__" = some none
  noN : findIn K (.ref C) "value" = some none
  iC : findIn K (.ref C) "__init__" = some (some (.ref f))
  tC : typeIn K (.ref f) = some (.type "function")
  kC : keepIn K (.ref C) = true
  exC : subIn K (.ref C) (.type "BaseException") = some true
  tyC : typeIn K (.ref C) = some (.type "type")
  hdC : hasDictIn K C = true
  ca : findIn K (.ref C) "__class__" = some (some (.builtin "object.__class__"))
  cg : specialIn K (.builtin "object.__class__") "__get__" = some (some (.builtin "getset_descriptor.__get__"))
  ct : takesIn K (.builtin "object.__class__") = some true
  ob : mroIn K C (.type "object") = some true
/-- the module and its builtins stand in a heap -/
structure Glob (h : Heap) (mg : Str → Option Value) : Prop where
  g : h.Ns mainGlobals mg
  b : ∃ mb, h.Ns builtinsNs mb ∧ mb "super" = bootBuiltins "super"
  ns : mg "super" = none
theorem Glob.keeps {h h' : Heap} {mg : Str → Option Value} (G : Glob h mg) (k : ∀ b o, h.get? b = some o → h'.get? b = some o) : Glob h' mg :=
  ⟨G.g.keeps k, let ⟨mb, h1, h2⟩ := G.b; ⟨mb, h1.keeps k, h2⟩, G.ns⟩
/-- a method call with one value, as the evaluator has it -/
theorem mcall1 {o : Expr} {name x : Str} {apos pos p3 : Pos} {env : Env} (hline : (apos.endLine == pos.line) = true) :
    eval (.Call (.Attribute o name apos) [.Name x p3] [] pos) env = (do
      let ov ← attributeBase o name env (eval o env)
      standAt apos.atName
      let (f, first) ← holding [ov] (getMethod ov name (do return (← importBound o env).getD true))
      callWith pos f first (backTo pos (starEach [.Name x p3] env)) []) := by
  have hf : methodCallForm (1 + 0) (backTo pos (starEach [.Name x p3] env)) (backToKw pos (keywordEach [] env)) = true := rfl
  have hp : methodCallPos true o env apos pos = pure pos := by unfold methodCallPos; simp [hline]
  rw [arm_eval_Call]
  unfold methodCall
  rw [show ([.Name x p3] : List Expr).length + ([] : List Keyword).length = 1 + 0 from rfl, hf, hp]
  rfl
theorem one_fits (v : Value) : [v].length ≤ sizeLine := by
  show 1 ≤ sizeLine
  decide
/-- what __init__ leaves of a fresh error at x -/
structure MadeAt (h h' : Heap) (x C dx t1 : Addr) (v : Value) : Prop where
  keep : ∀ b o, b ≠ x → h.get? b = some o → h'.get? b = some o
  obj : h'.get? x = some { cls := .ref C, dict := some dx, data := .fields #[.ref t1, .none, .none, .none, .bool false, .none] }
  dbig : h.objs.size ≤ dx
  dne : dx ≠ x
  ns : h'.Ns1 dx (fun y => if y = "value" then some v else none)
section
variable {prog : Program} {w : World} {A : Around} {E : Value → Shared → Prop} {R : Result → Shared → Prop} {s : Shared} {K : PySem.W.Frag} {mg : Str → Option Value} {C D f cc cd : Addr}
/-- ValueError.__init__ bound to a fresh error, called -/
theorem mw_call {C u e t0 : Addr} {rest : List Value} {h : Heap} {g d t os} {Q : Value → Shared → Prop} {nm q : Str} {N : Addr} {bs bm sub : List Value} {sn ab col dd k0 k1 k2 k3 k5}
    (hbm : HandSPX.refsVE bm = true) (hC : h.get? C = some (excClassObj nm q C N bs bm true sn sub ab col dd k0 k1 k2 k3 k5 "ValueError.__new__")) (he : h.get? e = some (HandSPX.excO C t0)) (hu : h.get? u = some (kxs_mw "ValueError.__init__" e)) (hz : rest.length ≤ sizeLine)
    (hq : ∀ h' t1, (∀ b o, b ≠ e → h.get? b = some o → h'.get? b = some o) → h'.get? e = some (HandSPX.excO C t1) → Q .none ⟨h', g, d, t, os⟩) :
    wpAny (model prog w) A (call (.ref u) rest) Q E ⟨h, g, d, t, os⟩ := by
  refine wpAny_call (codeAny_of_tree ?_)
  show wpAny _ A.in1 (callAny (.ref u) ⟨rest, []⟩) _ _ _
  simp only [callAny]
  refine wpAny_bind (wpAny_load hu ?_)
  simp only [kxs_mw, show (Value.type "method-wrapper" == Value.type "method" || Value.type "method-wrapper" == Value.type "builtin_function_or_method" || Value.type "method-wrapper" == Value.type "method-wrapper") = true from by decide, if_true]
  refine KFB.if_so (by decide) ?_
  refine wpAny_bind (check_bound_init PySem.F.excBase_ValueError.toExcCallFacts hC he rfl ?_)
  refine wpAny_bind (wpAny_pure (wpAny_pure ⟨plainId_quiet PySem.F.excBase_ValueError.init.plain _, codeAny_builtin PySem.F.excBase_ValueError.initEntry ?_⟩))
  exact exc_init_tree (cls := .ref C) (t0 := t0) (dv := none) (c2 := .none) (c3 := .none) (b4 := .bool false) he hz fun h' k e' t' => hq h' _ k e'
theorem root_init (T : RootT prog K D f cc cd) (TC : ErrT K D f C) {x t0 : Addr} {v : Value} (X : K.In s.heap) (G : Glob s.heap mg) (hlim : s.heap.NoLimit) (hx : s.heap.get? x = some (HandSPX.excO C t0)) (hnx : K.lookup x = none) (hroom : A.depth < recursionLimit)
    (hq : ∀ h' tk dx t1, MadeAt s.heap h' x C dx t1 v → R (.ok (.ret .none)) { s with heap := h', toks := tk }) :
    codeAny (model prog w) A (.call (.ref f) ⟨[.ref x, v], []⟩) R s := by
  obtain ⟨oc, od, doc, pm, an, ct, osl, n1, n2, p0, p1, p2, p3, p4, p5, q1, q2, q3, q4, hline, ho, hcd⟩ := T.fn
  obtain ⟨nm, q, N, bs, bm, sn, sub, ab, col, dd, k0, k1, k2, k3, k5, hC, hbm⟩ := TC.cls
  obtain ⟨c1, d1, vs, sl1, file, tf, hco, hvs, hfile⟩ := T.co
  obtain ⟨c2, d2, sl2, hce⟩ := T.ce
  obtain ⟨cdD, hcD⟩ := T.cD
  have hcl : clsIn K C = some { name := nm, bases := bs, mro := .ref C :: bm, ns := N, qualname := q, hasDict := true, slotNames := sn, subclasses := sub, abstract := ab, collection := col, hasDel := false } := by unfold clsIn; rw [hC] <;> rfl
  refine ks_codeAny_call_defAt (fd := ksFn "__init__" "RollError.__init__" (riA n1 n2) (riB p0 p1 p2 p3 p4 p5 q1 q2 q3 q4) riS .none .none doc pm an (.ref cd) ct cc) (body := riB p0 p1 p2 p3 p4 p5 q1 q2 q3 q4) (binds := [("self", .ref x), ("value", v)]) hroom (X _ _ ho) rfl hlim (codeRec_of X hcd) rfl
    (BindsTo.of_eq (by first | rfl | with_unfolding_all rfl)) (show ∀ y ∈ riS.names, y.2 ≠ .cell by decide +kernel) (fun y hy => ?_) (fun h₁ hns k => ?_) rfl rfl rfl
  · rcases List.mem_cons.mp hy with rfl | hy
    · rfl
    · rcases List.mem_cons.mp hy with rfl | hy
      · rfl
      · cases hy
  have X₁ : K.In h₁ := X.keeps k
  have G₁ : Glob h₁ mg := G.keeps k
  have hx₁ := k _ _ hx
  have hxL : s.heap.objs.size ≠ x := Nat.ne_of_gt (Heap.lt_size hx)
  have hsz : s.heap.objs.size < h₁.objs.size := hns.lt
  obtain ⟨mb, hb1, hb2⟩ := G₁.b
  have hD1 : ∃ oD, h₁.get? D = some oD ∧ oD.data = .cls cdD := by
    unfold clsIn at hcD
    split at hcD
    · rename_i ho'
      cases hcD
      exact ⟨_, X₁ _ _ ho', rfl⟩
    · cases hcD
  obtain ⟨oD, hD1, hD2⟩ := hD1
  refine ks_wpAt_execs_cons (ks_wpAt_Expr_any (ks_wpAt_MethodCall ?_ (mcall1 hline)))
  refine ks_wpAt_super_base (f := f) (cc := cd) (ar := { arg := "self", annotation := none, pos := n1 }) rfl rfl (by decide) rfl (X₁ _ _ ho) rfl rfl rfl (X₁ _ _ hco) rfl hvs hfile T.mn ?_
  refine ks_loadName_global rfl rfl (Calls.loadGlobal_builtin (mg := mg) (mb := mb) (v := .type "super") G₁.g G₁.ns hb1 (hb2.trans (by first | rfl | decide +kernel)) ⟨rfl, ?_⟩)
  refine wpAny_loadName_free rfl rfl rfl ⟨_, X₁ _ _ hce, rfl⟩ ?_
  refine wpAny_loadName_local rfl rfl hns (v := .ref x) (by first | rfl | with_unfolding_all rfl | kernel_rfl) ?_
  refine ks_wpAny_isType_cls hD1 hD2 ⟨rfl, ?_⟩
  refine ks_wpAny_call_super (C := C) hD1 hD2 hx₁ rfl (fun c e => by cases e) (looks_mroIn X₁ TC.up) (fun h₂ hso k₂ => ?_)
  have X₂ : K.In h₂ := X₁.keeps k₂
  have I₂ : InstAt h₂ x (HandSPX.excO C t0) C none := ⟨k₂ _ _ hx₁, rfl, rfl, trivial⟩
  have hIV : Looks (model prog w) h₂ (isInstance (.ref x) (.type "ValueError")) true := I₂.type.andThen (looks_subIn X₂ TC.sV)
  have hsu := TC.su
  unfold ks_superIn at hsu
  rw [hcl] at hsu
  have hxC : x ≠ C := ks_ne X₂ I₂ hcl
  refine kxs_getMethod kxs_ValueError (x := x) (C := C) (D := D) (l₀ := .ref C :: bm) hso (looks_opaque X₂ T.tp) (fun A Q E s k q => wpAny_bind ((looks_clsIn X₂ hcl) A _ E s k (wpAny_pure q))) rfl X₂ hsu hIV hxC (by decide) ?_
  have k₃ : ∀ b o, h₂.get? b = some o → (h₂.push (kxs_mw "ValueError.__init__" x)).get? b = some o := fun b o e => Heap.get?_push_of_some _ e
  have hu : (h₂.push (kxs_mw "ValueError.__init__" x)).get? h₂.objs.size = some (kxs_mw "ValueError.__init__" x) := Heap.get?_push_at rfl rfl
  refine kxs_callWith (i := "ValueError.__init__") (x := x) rfl (Calls.evalArgs_plain ?_)
  refine Calls.spliced_cons (wpAny_Name (wpAny_loadName_local rfl rfl (hns.keeps fun b o e => k₃ _ _ (k₂ _ _ e)) (v := v) (by first | rfl | with_unfolding_all rfl | kernel_rfl) ?_) (by decide))
  refine wpAny_pure ⟨hu, ?_⟩
  refine mw_call hbm (X₂.keeps k₃ _ _ hC) (k₃ _ _ I₂.at_) hu (one_fits v) (fun h₃ t1 k₄ hx₃ => ?_)
  -- self.value = value
  have kk : ∀ b o, b ≠ x → h₁.get? b = some o → h₃.get? b = some o := fun b o hb e => k₄ b o hb (k₃ _ _ (k₂ _ _ e))
  have X₃ : K.In h₃ := fun a o e => kk a o (fun z => by rw [z, hnx] at e; cases e) (X₁ a o e)
  have hn₃ : h₃.Ns s.heap.objs.size _ := let ⟨oL, es, ep, hL, r⟩ := hns; ⟨oL, es, ep, kk _ _ hxL hL, r⟩
  refine wpAt_of_wpAny ?_
  refine wpAny_execs_cons (plainObj_wpAny_Assign_Attribute ?_)
  refine wpAny_Name (wpAny_loadName_local rfl rfl hn₃ (v := v) (by first | rfl | with_unfolding_all rfl | kernel_rfl) ?_) (by decide)
  refine wpAny_Name (wpAny_loadName_local rfl rfl hn₃ (v := .ref x) (by first | rfl | with_unfolding_all rfl | kernel_rfl) ?_) (by decide)
  refine set_plain X₃ (ox := HandSPX.excO C t1) (od := none) ⟨hx₃, rfl, rfl, trivial⟩ TC.sa ?_
  refine HandSPX.exc_osa X₃ hx₃ hcl (show HandSPX.refsVE (.ref C :: bm) = true from hbm) rfl TC.noN (fun h₅ tk₅ dx k₅ dn dne hx₅ hn₅ => ?_)
  refine wpAny_execs_nil (hq h₅ tk₅ dx t1 ⟨fun b o hb e => k₅ b o hb (kk b o hb (k b o e)), hx₅, ?_, dne, hn₅⟩)
  have z3 : s.heap.objs.size < h₃.objs.size := hn₃.lt
  exact Nat.le_of_lt (Nat.lt_of_lt_of_le z3 dn)
/-- C(v) made: a new error at e, its own dict at d -/
structure OwnAt (h h' : Heap) (e C d : Addr) (v : Value) : Prop where
  keep : ∀ b o, h.get? b = some o → h'.get? b = some o
  big : h.objs.size ≤ e
  obj : ∃ t1, h'.get? e = some { cls := .ref C, dict := some d, data := .fields #[.ref t1, .none, .none, .none, .bool false, .none] }
  dbig : h.objs.size ≤ d
  dne : d ≠ e
  ns : h'.Ns1 d (fun y => if y = "value" then some v else none)
theorem root_made (T : RootT prog K D f cc cd) (TC : ErrT K D f C) {v : Value} (X : K.In s.heap) (G : Glob s.heap mg) (hlim : s.heap.NoLimit) (hroom : A.depth + 1 < recursionLimit)
    (hq : ∀ h' tk e d, OwnAt s.heap h' e C d v → R (.ok (.ret (.ref e))) { s with heap := h', toks := tk }) :
    codeAny (model prog w) A (.call (.ref C) ⟨[v], []⟩) R s := by
  obtain ⟨nm, q, N, bs, bm, sn, sub, ab, col, dd, k0, k1, k2, k3, k5, hC, hbm⟩ := TC.cls
  obtain ⟨hp, g, dr, tk, os⟩ := s
  have k : ∀ b o, hp.get? b = some o → ((hp.push (kdv_tup [v])).push (HandSPX.excO C hp.objs.size)).get? b = some o := fun b o e => Heap.get?_push_of_some _ (Heap.get?_push_of_some _ e)
  have hnx : K.lookup (hp.objs.size + 1) = none := by
    cases e : K.lookup (hp.objs.size + 1) with
    | none => rfl
    | some o => exact absurd (Nat.lt_of_succ_lt (Heap.lt_size (show hp.get? (hp.objs.size + 1) = some o from X _ _ e))) (Nat.lt_irrefl _)
  refine HandSPX.call_own PySem.F.excBase_ValueError (fun X => HandSPX.refsVE_contains X bm hbm) (X _ _ hC) (looks_findIn X TC.iC) (fun self => bind_fn X self TC.tC) (one_fits v) ?_
  refine root_init (s := ⟨(hp.push (kdv_tup [v])).push (HandSPX.excO C hp.objs.size), g, dr, tk, os⟩) T TC (X.keeps k) (G.keeps k) (hlim.keeps k) (by heap_get) hnx ?_ fun h' tk' dx t1 M => ?_
  · show A.depth + 1 < recursionLimit
    exact hroom
  · have old : ∀ b o, hp.get? b = some o → h'.get? b = some o := fun b o e => M.keep b o (Nat.ne_of_lt (Nat.lt_succ_of_lt (Heap.lt_size e))) (k b o e)
    have z : hp.objs.size + 1 + 1 ≤ dx := by
      have q := M.dbig
      first
        | exact q
        | (rw [Heap.size_push, Heap.size_push] at q; exact q)
    exact ⟨rfl, hq h' tk' (hp.objs.size + 1) dx ⟨old, Nat.le_succ _, ⟨t1, M.obj⟩, Nat.le_trans (Nat.le_trans (Nat.le_succ _) (Nat.le_succ _)) z, M.dne, M.ns⟩⟩
end
/-! ### C(e) as an expression -/
theorem relO_value {v : V} {v' : Value} (r : RelV v v') (y : Str) : RelO (List.lookup y [(("value" : Str), v)]) (if y = "value" then some v' else none) := by
  by_cases hw : y = "value"
  · subst hw
    rw [if_pos rfl, show List.lookup ("value" : Str) [(("value" : Str), v)] = some v by simp [List.lookup]]
    exact r
  · have qw : (y == ("value" : Str)) = false := by simpa using hw
    rw [if_neg hw, show List.lookup y [(("value" : Str), v)] = none by simp [List.lookup, qw]]
    trivial
def eMk (C : Str) (m : EM) : EM := fun ρ h => (m ρ h).bind fun x h1 => .ok (.err C x) h1
section
variable {X : Cx} {W : WX} {a : Expr} {m : EM} {C : Str} {D f cc cd : Addr} {p pos : Pos} {k : Nat}
theorem Inv.glob {pins : List (Addr × Obj)} {σ : L2.St} {H : Hp} {s : Shared} (I : L2.Inv X pins σ H s) (hs : X.mg "super" = none) : Glob s.heap X.mg :=
  ⟨I.mod.glob.keeps I.bk, let ⟨mb, h1, h2⟩ := I.mod.blt; ⟨mb, h1.keeps I.bk, h2 _ (by decide)⟩, hs⟩
theorem se_mk (RT : RootT X.prog X.K D f cc cd) (TC : ErrT X.K D f (He.ga X.K C)) (hs : X.mg "super" = none) (hr : RG k X.A) (hk : 2 ≤ k) (hg : Gl X C) (gC : X.mg C = some (.ref (He.ga X.K C))) (ha : PE X a (T X.K W m)) (hdb : (C == ("__debug__" : Str)) = false := by decide)
    (he : starEach (a :: []) X.env = (false, eval a X.env) :: starEach [] X.env := by rfl) (hpl : (backTo pos (starEach [] X.env)).any (·.1) = false := by rfl) :
    PE X (.Call (.Name C p) [a] [] pos) (T X.K W (eMk C m)) := by
  refine ⟨fun pins sh σ H Q I h => wpAny_Call_Name_kw (ld_glob I hg gC ?_ hdb)⟩
  obtain ⟨s, ρ, eh, rs, re, h⟩ := h
  subst eh
  have hA : T X.K W m σ s.H fun v H1 => ∃ v', [v] = [v'] ∧ ∀ d e, H1 d = none → d ≠ e → H1 e = none → Q (.ref e) (upd (upd H1 d (.xd [(("value" : Str), v')])) e (ErrO (He.ga X.K C) d e)) := by
    refine T.bind rs re h fun x s1 v n h1 => ?_
    refine ⟨v, rfl, fun d e hd hne he => ?_⟩
    have r1 := n.rs.put (o := .xd [(("value" : Str), v)]) hd
    have he2 : (s1.put d (.xd [(("value" : Str), v)])).H e = none := (upd_ne (Ne.symm hne)).trans he
    have e1 : Ext s1 (s1.put d (.xd [(("value" : Str), v)])) := Ext.put n.rs hd
    have e2 : Ext (s1.put d (.xd [(("value" : Str), v)])) ((s1.put d (.xd [(("value" : Str), v)])).put e (ErrO (He.ga X.K C) d e)) := Ext.put r1 he2
    refine h1 ((s1.put d (.xd [(("value" : Str), v)])).put e (ErrO (He.ga X.K C) d e)) (.ref e) (e1.trans e2) (r1.put he2) rfl ?_
    simp only [Rv]
    exact ⟨e, d, v, rfl, Fz.put r1 he2, e2.fz _ _ (Fz.put n.rs hd), (n.rv.ext e1).ext e2⟩
  refine callWith_K (h₀ := X.base) I.ok.mod.kin TC.kC (thn ((pa_cons ha pa_nil he).run pos pins sh σ s.H (fun vs H1 => ∃ v, vs = [v] ∧ ∀ d e, H1 d = none → d ≠ e → H1 e = none → Q (.ref e) (upd (upd H1 d (.xd [(("value" : Str), v)])) e (ErrO (He.ga X.K C) d e))) I ?_) fun us s1 hh => ?_) he hpl
  · exact hA
  · obtain ⟨vs, H1, I1, r1, v, ev, q1⟩ := hh
    subst ev
    refine ⟨I1.kIn, ?_⟩
    cases r1 with
    | cons rv rn =>
      rename_i v' us'
      cases rn
      show wpAny _ _ (call (.ref (He.ga X.K C)) [v']) _ _ _
      have hlim := I1.nolimit
      have hG := Inv.glob I1 hs
      obtain ⟨hp, g, dr, tk, os⟩ := s1
      refine wpAny_call (root_made RT TC I1.kIn hG hlim (by have := hr.room.dp; omega) fun h' tk' e d M => ?_)
      obtain ⟨t1, hoe⟩ := M.obj
      have hns := M.ns
      obtain ⟨G', g1, g2⟩ := restrict h' fun b => decide (b ≠ e)
      have gk : ∀ b, b ≠ e → G'.get? b = h'.get? b := fun b hb => g1 b (decide_eq_true hb)
      have ge : G'.get? e = none := g2 e (by simp)
      have old : ∀ b o, hp.get? b = some o → G'.get? b = some o := fun b o q => (gk b (Nat.ne_of_lt (Nat.lt_of_lt_of_le (Heap.lt_size q) M.big))).trans (M.keep b o q)
      have hd0 : H1 d = none := I1.hok.fresh M.dbig
      have he0 : H1 e = none := I1.hok.fresh M.big
      have J : L2.Inv X pins σ (upd H1 d (.xd [(("value" : Str), v)])) ⟨G', g, dr, tk', os⟩ :=
        I1.laid (t' := tk') old M.dbig ⟨_, hns.at (fun o q => (gk d M.dne).trans q), fun y => relO_value rv y⟩
      have J2 : L2.Inv X pins σ (upd (upd H1 d (.xd [(("value" : Str), v)])) e (ErrO (He.ga X.K C) d e)) ⟨h', g, dr, tk', os⟩ :=
        Inv.laidN (t' := tk') J (fun b o q => by
          by_cases hb : b = e
          · rw [hb, show (⟨G', g, dr, tk', os⟩ : Shared).heap.get? e = none from ge] at q
            cases q
          · exact (gk b hb).symm.trans q) ge ((upd_ne (Ne.symm M.dne)).trans he0)
          ⟨⟨_, _, hoe, rfl, rfl, rfl, rfl, rfl, (show 4 < 6 by decide)⟩, ⟨_, hoe⟩, fun h1 h2 ⟨oe, vs, q1, q2⟩ k => ⟨oe, vs, k _ q1, q2⟩⟩
      exact ⟨.ref e, _, J2, rfl, q1 d e hd0 M.dne he0⟩
end
/-! ### an error held: its value read, asked of -/
/-- the object of an error at a, its class C, its dict d -/
theorem err_at {X : Cx} {pins : List (Addr × Obj)} {σ : L2.St} {s : Sg} {sh : Shared} {C : Str} {x : IV} {v : V} (I : L2.Inv X pins σ s.H sh) (h : RV X.K s (.err C x) v) :
    ∃ (a d : Addr) (y : V) (oe od : Obj) (mA : Str → Option Value), v = .ref a ∧ Rv X.K (At s) (Fz s) x y ∧ InstAt sh.heap a oe (He.ga X.K C) (some od) ∧ (∀ name, lookIn name od = some (mA name)) ∧ ∀ y', RelO (List.lookup y' [(("value" : Str), y)]) (mA y') := by
  simp only [Rv] at h
  obtain ⟨a, d, y, rfl, h1, h2, h3⟩ := h
  obtain ⟨⟨oe, vs, q1, q2, q3, q4, _⟩, _⟩ := (show ObjOk X.prog X.w s.H sh.heap a (ErrO (He.ga X.K C) d a) from h1.2.ok I.hok)
  obtain ⟨mA, hns, hr⟩ := (show ObjOk X.prog X.w s.H sh.heap d (.xd [(("value" : Str), y)]) from h2.2.ok I.hok)
  obtain ⟨od, ho, hl⟩ := lookIn_ns hns
  exact ⟨a, d, y, oe, od, mA, rfl, h3, ⟨q1, q2, by unfold PySem.W.notCls; rw [q4] <;> rfl, by rw [q3]; exact ho⟩, hl, hr⟩
/-- e.value, e one of the errors cs -/
def eValue (cs : List Str) (m : EM) : EM := fun ρ h => (m ρ h).bind fun x h1 => match x with
  | .err C v => if cs.contains C then .ok v h1 else .stuck
  | _ => .stuck
section
variable {X : Cx} {W : WX} {e : Expr} {m : EM} {D f : Addr} {cs : List Str} {pos : Pos}
theorem se_value (hT : ∀ C, cs.contains C = true → ErrT X.K D f (He.ga X.K C)) (he : PE X e (T X.K W m)) (hb : attributeBase e "value" X.env (eval e X.env) = eval e X.env := by rfl) : PE X (.Attribute e "value" pos) (T X.K W (eValue cs m)) := by
  refine ⟨fun pins sh σ H Q I ⟨s, ρ, eh, rs, re, h⟩ => ?_⟩
  subst eh
  have hE : T X.K W m σ s.H fun v H1 => ∃ (s1 : Sg) (C : Str) (x : IV), s1.H = H1 ∧ RV X.K s1 (.err C x) v ∧ cs.contains C = true ∧ ∀ y, RV X.K s1 x y → Q y H1 := by
    refine T.bind rs re h fun x s1 v n h1 => ?_
    split at h1
    · rename_i C y
      split at h1
      · rename_i q
        exact ⟨s1, C, y, rfl, n.rv, q, fun u ru => h1.ret n.rs ru⟩
      · exact h1.elim
    · exact h1.elim
  refine attr_of hb (thn (he.run pins sh σ s.H _ I hE) fun u s1 ⟨v, H1, I1, ru, s2, C, x, eh, rv, hC, q⟩ => ?_)
  subst eh
  have TC := hT C hC
  obtain ⟨a, d, y, oe, od, mA, rfl, ry, J, hl, hr⟩ := err_at I1 rv
  obtain rfl : u = Value.ref a := ru
  have l : List.lookup ("value" : Str) [(("value" : Str), y)] = some y := by simp [List.lookup]
  obtain ⟨u, hu, ru⟩ := RelO.some_of (v := y) (o := mA "value") (by rw [← l]; exact hr "value")
  exact HandSPX.exc_get I1.kIn J TC.ga TC.gg TC.exC (PySem.W.findObj_own TC.hdC TC.noN rfl (by rw [hl, hu])) (handed_of ru) ⟨y, s2.H, I1.tok _, ru, q y ry⟩
end
/-- a class, as isinstance takes it -/
def clsV (K : PySem.W.Frag) : IV → Option Value
  | .glo D => some (.ref (He.ga K D))
  | .ty n => some (.type n)
  | _ => none
/-- isinstance(e, c), by a table -/
def gIsa (tab : Str → IV → Option Bool) : FM := fun xs h => match xs with
  | [.err C _, c] => (match tab C c with
    | some b => .ok (.bl b) h
    | none => .stuck)
  | _ => .stuck
theorem cm_isa {X : Cx} {D f : Addr} {tab : Str → IV → Option Bool} (hT : ∀ C c b, tab C c = some b → ErrT X.K D f (He.ga X.K C) ∧ ∃ cv, clsV X.K c = some cv ∧ kitOne X.K (.ref (He.ga X.K C)) cv = some b) : CallM X (.builtin "isinstance") (gIsa tab) := by
  refine ⟨fun vs H Q => ∃ (s : Sg) (C : Str) (x c : IV) (v u : V) (b : Bool), s.H = H ∧ vs = [v, u] ∧ RV X.K s (.err C x) v ∧ RV X.K s c u ∧ tab C c = some b ∧ Q (.bl b) H, ?_, ?_⟩
  · intro pins sh σ H vs us Q I rvs ⟨s, C, x, c, v, u, b, eh, ev, rv, ru, et, q⟩
    subst eh ev
    obtain ⟨u1, u2, rfl, r1, r2⟩ := rvs.two
    obtain ⟨TC, cv, ec, ek⟩ := hT C c b et
    obtain ⟨a, d, y, oe, od, mA, rfl, ry, J, hl, hr⟩ := err_at I rv
    obtain rfl : u1 = Value.ref a := r1
    have e2 : u2 = cv := by
      cases c with
      | glo z =>
        simp only [clsV] at ec
        cases ec
        simp only [Rv] at ru
        subst ru
        exact r2
      | ty n =>
        simp only [clsV] at ec
        cases ec
        simp only [Rv] at ru
        subst ru
        exact r2
      | _ => simp only [clsV] at ec; cases ec
    subst e2
    have hcl : (clsIn X.K (He.ga X.K C)).isSome = true := by
      obtain ⟨cd, hc, _⟩ := any_some TC.hdC
      rw [hc]
      rfl
    exact kia_one (kitx_exc hcl TC.ga TC.gg TC.exC TC.ca TC.cg TC.ct TC.ob) I.kIn J ek (fun z => nomatch z) fun tk => ⟨.bl b, s.H, I.tok _, rfl, q⟩
  · intro s xs vs E Q rs rx h
    unfold gIsa at h
    split at h
    · rename_i C x c
      obtain ⟨v, u, rfl, rv, ru⟩ := rvs_two rx
      split at h
      · rename_i b e
        exact ⟨s, C, x, c, v, u, b, rfl, rfl, rv, ru, e, h.ret rs mk_bl⟩
      · exact h.elim
    · exact h.elim
end Mp

set_option maxHeartbeats 4000000
/-! Mp7: the head's hook with the errors' facts; the law's end. -/
namespace Mp
open PySem PySem.Spec PyProof.Rows L2

/-! ### facts of the errors, as a check of the written part -/
def excB (K : PySem.W.Frag) (C : Addr) : Bool := match K.lookup C with
  | some ⟨c, _, .cls k, w⟩ => decide (c = .type "type") && (match k.mro, w.toList with
    | .ref C' :: bm, [_, _, _, _, some (.builtin n), _] => decide (C' = C) && (decide (n = "ValueError.__new__") && (!k.hasDel && (k.hasDict && HandSPX.refsVE bm)))
    | _, _ => false)
  | _ => false
theorem excB_ok {K : PySem.W.Frag} {C : Addr} (h : excB K C = true) :
    ∃ nm q N bs bm sn sub ab col dd k0 k1 k2 k3 k5, K.lookup C = some (excClassObj nm q C N bs bm true sn sub ab col dd k0 k1 k2 k3 k5 "ValueError.__new__") ∧ HandSPX.refsVE bm = true := by
  unfold excB at h
  split at h
  · rename_i c dd k w ho
    obtain ⟨h1, h⟩ := Bool.and_eq_true_iff.mp h
    split at h
    · rename_i C' bm k0 k1 k2 k3 n k5 hm hw
      simp only [Bool.and_eq_true, decide_eq_true_eq, Bool.not_eq_true'] at h h1
      obtain ⟨e1, e2, e3, e4, e5⟩ := h
      obtain ⟨nm, bs, mro, ns, qn, hd, sn, sub, ab, col, del⟩ := k
      dsimp only at hm e3 e4
      obtain ⟨l⟩ := w
      simp only at hw
      subst hm hw e1 e2 h1 e3 e4
      exact ⟨_, _, _, _, _, _, _, _, _, _, _, _, _, _, _, ho, e5⟩
    · cases h
  · cases h
def errB (K : PySem.W.Frag) (D f C : Addr) : Bool :=
  excB K C && decide (PySem.W.mroIn K C (.ref D) = some true) && He.eqO (PySem.W.ks_superIn K C D "__init__") (some (some (.builtin "ValueError.__init__"))) &&
  decide (PySem.W.subIn K (.ref C) (.type "ValueError") = some true) && He.eqO (PySem.W.findIn K (.ref C) "__setattr__") (some (some (.builtin "object.__setattr__"))) &&
  He.eqO (PySem.W.findIn K (.ref C) "__getattribute__") (some (some (.builtin "BaseException.__getattribute__"))) && He.eqO (PySem.W.findIn K (.ref C) "__getattr__") (some none) &&
  He.eqO (PySem.W.findIn K (.ref C) "value") (some none) && He.eqO (PySem.W.findIn K (.ref C) "__init__") (some (some (.ref f))) && decide (PySem.W.typeIn K (.ref f) = some (.type "function")) &&
  PySem.W.keepIn K (.ref C) && decide (PySem.W.subIn K (.ref C) (.type "BaseException") = some true) && decide (PySem.W.typeIn K (.ref C) = some (.type "type")) && PySem.W.hasDictIn K C &&
  He.eqO (PySem.W.findIn K (.ref C) "__class__") (some (some (.builtin "object.__class__"))) && He.eqO (PySem.W.specialIn K (.builtin "object.__class__") "__get__") (some (some (.builtin "getset_descriptor.__get__"))) &&
  decide (PySem.W.takesIn K (.builtin "object.__class__") = some true) && decide (PySem.W.mroIn K C (.type "object") = some true)
theorem errB_ok {K : PySem.W.Frag} {D f C : Addr} (h : errB K D f C = true) : ErrT K D f C := by
  unfold errB at h
  simp only [Bool.and_eq_true, decide_eq_true_eq] at h
  obtain ⟨⟨⟨⟨⟨⟨⟨⟨⟨⟨⟨⟨⟨⟨⟨⟨⟨h1, h2⟩, h3⟩, h4⟩, h5⟩, h6⟩, h7⟩, h8⟩, h9⟩, h10⟩, h11⟩, h12⟩, h13⟩, h14⟩, h15⟩, h16⟩, h17⟩, h18⟩ := h
  exact ⟨excB_ok h1, h2, He.eqO_ok h3, h4, He.eqO_ok h5, He.eqO_ok h6, He.eqO_ok h7, He.eqO_ok h8, He.eqO_ok h9, h10, h11, h12, h13, h14, He.eqO_ok h15, He.eqO_ok h16, h17, h18⟩
/-- the root's __init__: its function object's text -/
abbrev RootV : Type := Option (Str × Str × Arguments × FuncBody × Scope × Addr × List Str × Addr)
def rootF (K : PySem.W.Frag) : Addr := He.ma K (He.ga K "RollError") "__init__"
def rootFd (K : PySem.W.Frag) : Option FuncData := match K.lookup (rootF K) with
  | some ⟨_, _, .func fd, _⟩ => some fd
  | _ => none
def rootObs (K : PySem.W.Frag) : RootV := (rootFd K).map fun fd => (fd.name, fd.qualname, fd.params, fd.body, fd.scope, fd.globals, fd.closure.map (·.1), fd.builtins)
def rootCc (K : PySem.W.Frag) : Addr := match rootFd K with
  | some fd => (match fd.closure with
    | [p] => p.2
    | _ => 0)
  | none => 0
def rootCd (K : PySem.W.Frag) : Addr := match rootFd K with
  | some fd => (match fd.code with
    | .ref c => c
    | _ => 0)
  | none => 0
def noneB : Value → Bool
  | .none => true
  | _ => false
theorem noneB_ok {v : Value} (h : noneB v = true) : v = .none := by
  cases v with
  | none => rfl
  | _ => cases h
def rootB (prog : Program) (K : PySem.W.Frag) : Bool :=
  (match rootFd K with
    | some fd => noneB fd.defaults && (noneB fd.kwdefaults && decide (fd.code = .ref (rootCd K)))
    | none => false) && (PySem.W.codeIn K (.ref (rootCd K)) "RollError.__init__" &&
  ((match K.lookup (rootCd K) with
    | some ⟨_, _, .fields vs, _⟩ => (match (vs[2]? : Option Value) with
      | some (.str file _) => (prog.main.file : Str) == file
      | _ => false)
    | _ => false) &&
  ((match K.lookup (rootCc K) with
    | some ⟨_, _, .cell (some v), _⟩ => decide (v = .ref (He.ga K "RollError"))
    | _ => false) && ((PySem.W.clsIn K (He.ga K "RollError")).isSome && (He.eqO (PySem.W.nsIn K cStatics "thirdparty.any") (some none) && !(prog.main.scope.names.lookup ("super" : Str)).isSome)))))
def rootVal (n1 n2 p0 p1 p2 p3 p4 p5 q1 q2 q3 q4 : Pos) : RootV := some ("__init__", "RollError.__init__", riA n1 n2, .stmts (riB p0 p1 p2 p3 p4 p5 q1 q2 q3 q4), riS, mainGlobals, ["__class__"], builtinsNs)
theorem root_ok {prog : Program} {K : PySem.W.Frag} {n1 n2 p0 p1 p2 p3 p4 p5 q1 q2 q3 q4 : Pos} (e : rootObs K = rootVal n1 n2 p0 p1 p2 p3 p4 p5 q1 q2 q3 q4) (hl : (p2.endLine == p4.line) = true) (h : rootB prog K = true) :
    RootT prog K (He.ga K "RollError") (rootF K) (rootCc K) (rootCd K) := by
  unfold rootB at h
  obtain ⟨h1, h⟩ := Bool.and_eq_true_iff.mp h
  obtain ⟨h2, h⟩ := Bool.and_eq_true_iff.mp h
  obtain ⟨h3, h⟩ := Bool.and_eq_true_iff.mp h
  obtain ⟨h4, h⟩ := Bool.and_eq_true_iff.mp h
  obtain ⟨h5, h⟩ := Bool.and_eq_true_iff.mp h
  obtain ⟨h6, h7⟩ := Bool.and_eq_true_iff.mp h
  refine ⟨?_, ?_, ?_, Option.isSome_iff_exists.mp h5, He.eqO_ok h6, by simpa using h7⟩
  · cases q : rootFd K with
    | none =>
      rw [q] at h1
      cases h1
    | some fd =>
      rw [q] at h1
      obtain ⟨k1, k2⟩ := Bool.and_eq_true_iff.mp h1
      obtain ⟨k2, k3⟩ := Bool.and_eq_true_iff.mp k2
      have e1 := noneB_ok k1
      have e2 := noneB_ok k2
      have e3 : fd.code = .ref (rootCd K) := of_decide_eq_true k3
      have hcl : ∀ p ∈ [fd.closure], fd.closure = p := fun p hp => (List.mem_singleton.mp hp).symm
      have ecc : rootCc K = (match fd.closure with
        | [p] => p.2
        | _ => 0) := by
        unfold rootCc
        rw [q]
      unfold rootObs at e
      rw [q] at e
      unfold rootFd at q
      split at q
      · rename_i oc od fd' osl hlk
        cases q
        obtain ⟨m1, m2, m3, m4, m5, m6, m7, m8, m9, m10, m11, m12, m13, m14, m15⟩ := fd
        have e5 : (some (m1, m2, m3, m4, m5, m6, m7.map (·.1), m15) : RootV) = rootVal n1 n2 p0 p1 p2 p3 p4 p5 q1 q2 q3 q4 := e
        unfold rootVal at e5
        simp only [Option.some.injEq, Prod.mk.injEq] at e5
        obtain ⟨g1, g2, g3, g4, g5, g6, g7, g8⟩ := e5
        dsimp only at e1 e2 e3 ecc
        have e7 : m7 = [(("__class__" : Str), rootCc K)] := by
          match m7, g7, ecc with
          | [(y, c)], g7, ecc =>
            have gy : y = ("__class__" : Str) := by simpa using g7
            rw [ecc, gy]
          | [], g7, _ => simp at g7
          | _ :: _ :: _, g7, _ => simp at g7
        subst g1 g2 g3 g4 g5 g6 g8 e1 e2
        rw [e7] at hlk
        rw [e3] at hlk
        exact ⟨oc, od, _, _, _, _, osl, n1, n2, p0, p1, p2, p3, p4, p5, q1, q2, q3, q4, hl, hlk, h2⟩
      · cases q
  · split at h3
    · rename_i c d vs sl ho
      split at h3
      · rename_i file tf hv
        exact ⟨c, d, vs, sl, file, tf, ho, hv, h3⟩
      · cases h3
    · cases h3
  · split at h4
    · rename_i c d v sl ho
      rw [of_decide_eq_true h4] at ho
      exact ⟨c, d, sl, ho⟩
    · cases h4
/-! ### the hook: the defs' facts, the errors' checks, the root's text -/
abbrev AlM : Type := He.AlD × Bool × RootV
def asM (g : Addr → Option Obj) (n : Nat) : List Addr := cStatics :: He.asD g n
def obsM (fa : List He.Fa) (fn : List He.DefD) (chk : PySem.W.Frag → Bool) (K : PySem.W.Frag) : AlM := (He.obsD fa fn K, chk K, rootObs K)
def valM (fn : List He.DefD) (rv : RootV) : AlM := (He.valD fn, true, rv)
def SaysM (fa : List He.Fa) (fn : List He.DefD) (chk : PySem.W.Frag → Bool) (rv : RootV) (K : PySem.W.Frag) : Prop := obsM fa fn chk K = valM fn rv
def obsMG (n : Nat) (fa : List He.Fa) (fn : List He.DefD) (chk : PySem.W.Frag → Bool) (g : Addr → Option Obj) : AlM := obsM fa fn chk (He.frG g (asM g n))
def hookM (n : Nat) (fa : List He.Fa) (fn : List He.DefD) (chk : PySem.W.Frag → Bool) (rv : RootV) : PySem.W.Hook where
  α := AlM
  obs := fun z => obsMG n fa fn chk z.heap.get?
  val := fun _ => valM fn rv
  says := fun _ h => ∃ L : PySem.W.Frag, L.In h ∧ SaysM fa fn chk rv L
  of := fun _ _ e => ⟨_, He.frG_in, e⟩
  keeps := fun _ _ _ ⟨L, hL, c⟩ k => ⟨L, PySem.W.Frag.In.keeps hL k, c⟩
theorem obsMG_eq {n : Nat} {fa : List He.Fa} {fn : List He.DefD} {chk : PySem.W.Frag → Bool} {rv : RootV} {g : Addr → Option Obj} {z : Shared} (h : ∀ a, g a = z.heap.get? a) : obsMG n fa fn chk g = (hookM n fa fn chk rv).obs z := by
  have e : g = z.heap.get? := funext h
  rw [e] <;> rfl
theorem SaysM.d {fa : List He.Fa} {fn : List He.DefD} {chk : PySem.W.Frag → Bool} {rv : RootV} {K : PySem.W.Frag} (c : SaysM fa fn chk rv K) : He.SaysD fa fn K := congrArg (fun z : AlM => z.1) c
theorem SaysM.chk_ {fa : List He.Fa} {fn : List He.DefD} {chk : PySem.W.Frag → Bool} {rv : RootV} {K : PySem.W.Frag} (c : SaysM fa fn chk rv K) : chk K = true := congrArg (fun z : AlM => z.2.1) c
theorem SaysM.root {fa : List He.Fa} {fn : List He.DefD} {chk : PySem.W.Frag → Bool} {rv : RootV} {K : PySem.W.Frag} (c : SaysM fa fn chk rv K) : rootObs K = rv := congrArg (fun z : AlM => z.2.2) c

/-! ### the law's end -/
/-- the state that a law starts from: no cells; the script alone may be tracked -/
theorem start_of {K : PySem.W.Frag} {H : Hp} {a : Addr} {ns : List Int} (hS : SqL K H a (ns.map V.int)) : RS K ⟨[], [], H, []⟩ ∧ RVs K ⟨[], [], H, []⟩ [.scr (ns.map IV.int)] [.ref a] := by
  have hr : ∀ l : List Int, RVs K ⟨[], [], H, []⟩ (l.map IV.int) (l.map V.int) := fun l => by
    induction l with
    | nil => exact Rvs.nil_
    | cons i l ih =>
      simp only [List.map_cons, Rvs]
      exact ⟨_, _, rfl, mk_int, ih⟩
  refine ⟨⟨rfl, List.nodup_nil, fun n b o h1 _ => by simp at h1, fun b hb => absurd hb (by simp)⟩, Rvs.one ?_⟩
  simp only [Rv]
  refine ⟨a, _, rfl, ?_, hr ns⟩
  rcases hS with h | h
  · exact .inl ⟨⟨fun ⟨n, o, z, _⟩ => by simp at z, by simp⟩, h⟩
  · exact .inr (.inr h)
section
variable {P : Program} {w : World} {K : PySem.W.Frag} {mg mb : Str → Option Value} {k : Nat} {fa a : Addr} {fd : FuncData} {x : Str} {F : FM} {s₁ : Shared} {vs : List Value} {ns : List Int}
/-- the heap without what H tells of, at a heap in which H tells of the script alone -/
theorem base_get {H : Hp} {b : Addr} {o : Obj} {m : Nat} (ha : s₁.heap.get? a = some { cls := .type "list", data := .seq vs.toArray m }) (hA : ∀ b, H b ≠ none → b = a) (e : s₁.heap.get? b = some o) (n : b = a → False) : (hidT s₁.heap H).get? b = some o := by
  refine hidT_get e ?_
  cases q : H b with
  | none => rfl
  | some u => exact (n (hA b (by rw [q]; simp))).elim
theorem law_at (KX : K.In s₁.heap) (hns : s₁.heap.Ns mainGlobals mg) (hb : s₁.heap.Ns builtinsNs mb) (hbb : ∀ y : Str, y ≠ "__name__" → mb y = bootBuiltins y) (hlim : s₁.heap.NoLimit) (hg : s₁.gens = #[])
    (ha : s₁.heap.get? a = some { cls := .type "list", data := .seq vs.toArray }) (G : ∀ base : Heap, K.In base → base.Ns mainGlobals mg → FnG P w K mg base k fa fd [x] (spF K F)) (hr : RG k callerA) (hbind : ∀ (s : Shared) (u : Value), BindsTo s fd ⟨[u], []⟩ [(x, u)])
    {H : Hp} (hS : SqL K H a (ns.map V.int)) (hok : HOk P w H s₁.heap) (hA : ∀ b, H b ≠ none → b = a) (hK : H a ≠ none → K.lookup a = none) (hO : Only H) (hm : ∃ h', F [.scr (ns.map IV.int)] [] = .ok (.bl true) h') :
    codeAny (model P w) callerA (.call (.ref fa) ⟨[.ref a], []⟩) (fun r s' => r = .ok (.ret (.bool true)) ∧ OldK s₁.heap s'.heap ∧ s'.os = s₁.os ∧ AllBare s'.gens) s₁ := by
  -- namespaces are dicts, the script is a list
  have ns_up : ∀ {b : Addr} {m : Str → Option Value}, s₁.heap.Ns b m → (hidT s₁.heap H).Ns b m := fun {b m} ⟨o, es, ep, e, d, r⟩ => ⟨o, es, ep, base_get ha hA e (fun z => by
    rw [z, ha] at e
    cases e
    cases d), d, r⟩
  have k_up : K.In (hidT s₁.heap H) := fun b o e => hidT_get (KX b o e) (by
    cases q : H b with
    | none => rfl
    | some u =>
      have z : H b ≠ none := by
        rw [q]
        simp
      have eb := hA b z
      rw [eb] at z e
      rw [hK z] at e
      cases e)
  have nobody : ∀ b : Addr, b ∉ ([] : List Addr) := fun b => by simp
  have md : Mod K mg (hidT s₁.heap H) := ⟨k_up, ns_up hns, ⟨mb, ns_up hb, hbb⟩, hlim.elim fun mc q => ⟨mc, ns_up q.1, q.2⟩⟩
  have en : Env0 P w K mg (hidT s₁.heap H) callerA [] s₁ H := ⟨rfl, md, fun b o z => of_hidT z, Nat.le_of_eq (hidT_size _ _), trivial, fun b z => (nobody b z).elim, hok, .of_eq hg⟩
  obtain ⟨rs, rv⟩ := start_of hS
  obtain ⟨h', em⟩ := hm
  have sp : spF K F [.ref a] H (fun v _ => v = .bl true) (fun _ _ _ => False) := by
    refine ⟨⟨[], [], H, []⟩, _, rfl, rs, rv, ?_⟩
    rw [em]
    exact fun s' v _ _ _ rv => rv_bl rv
  have go := (G _ k_up (ns_up hns)).run callerA [] s₁ H ⟨[.ref a], []⟩ [.ref a] [.ref a] _ _ hr en (hbind s₁ (.ref a)) (.cons rfl .nil) sp
  refine codeAny_mono go fun r s' q => ?_
  cases r with
  | error e =>
    obtain ⟨_, _, _, _, _, _, _, _, _, _, _, _, q⟩ := q
    exact False.elim q
  | ok fl =>
    cases fl with
    | ret u =>
      obtain ⟨v, H', os, bare, un, ok', ru, ev⟩ := q
      rw [show v = V.bl true from ev] at ru
      refine ⟨by rw [show u = Value.bool true from ru], OldK.of_keep fun b o e => ?_, os, bare⟩
      cases q : H b with
      | none => exact un.keep b o e q (nobody b) (nobody b)
      | some y =>
        rcases hO b with z | ⟨ob, ws, z⟩
        · rw [z] at q
          cases q
        · have e1 := (hok b _ z).1
          rw [e] at e1
          rw [Option.some.inj e1]
          exact (ok' b _ (un.frzs b ob _ z)).1
    | _ => exact q.elim
theorem law_go (KX : K.In s₁.heap) (hns : s₁.heap.Ns mainGlobals mg) (hb : s₁.heap.Ns builtinsNs mb) (hbb : ∀ y : Str, y ≠ "__name__" → mb y = bootBuiltins y) (hlim : s₁.heap.NoLimit) (hg : s₁.gens = #[])
    (ha : s₁.heap.get? a = some { cls := .type "list", data := .seq vs.toArray }) (hi : IntsAre vs ns) (hl : ns.length ≤ sizeLine) (G : ∀ base : Heap, K.In base → base.Ns mainGlobals mg → FnG P w K mg base k fa fd [x] (spF K F)) (hr : RG k callerA) (hbind : ∀ (s : Shared) (u : Value), BindsTo s fd ⟨[u], []⟩ [(x, u)])
    (hm : ∃ h', F [.scr (ns.map IV.int)] [] = .ok (.bl true) h') :
    codeAny (model P w) callerA (.call (.ref fa) ⟨[.ref a], []⟩) (fun r s' => r = .ok (.ret (.bool true)) ∧ OldK s₁.heap s'.heap ∧ s'.os = s₁.os ∧ AllBare s'.gens) s₁ := by
  have rv := vals_ints hi
  have len := hi.length
  cases hk : K.lookup a with
  | some o =>
    have e := KX a o hk
    rw [ha] at e
    cases e
    exact law_at (H := fun _ => none) KX hns hb hbb hlim hg ha G hr hbind (.inr ⟨_, vs.toArray, _, hk, rfl, rfl, rfl, by rw [List.size_toArray, len]; exact hl, by simpa using rv⟩) (fun b u z => by cases (show (none : Option HO) = some u from z)) (fun b z => absurd rfl z) (fun z => absurd rfl z) (fun _ => .inl rfl) hm
  | none =>
    have at_ : ∀ {b : Addr}, b = a → (fun c => if c = a then some (HO.frz { cls := .type "list", data := .seq vs.toArray } (.lst (ns.map V.int))) else none : Hp) b = some (HO.frz { cls := .type "list", data := .seq vs.toArray } (.lst (ns.map V.int))) := fun e => if_pos e
    have off : ∀ {b : Addr}, b ≠ a → (fun c => if c = a then some (HO.frz { cls := .type "list", data := .seq vs.toArray } (.lst (ns.map V.int))) else none : Hp) b = none := fun e => if_neg e
    refine law_at (H := fun c => if c = a then some (.frz { cls := .type "list", data := .seq vs.toArray } (.lst (ns.map V.int))) else none) KX hns hb hbb hlim hg ha G hr hbind (.inl (.inr ⟨_, at_ rfl⟩)) (fun b u z => ?_) (fun b z => ?_) (fun _ => hk) (fun b => ?_) hm
    · by_cases e : b = a
      · have z2 := (at_ e).symm.trans z
        cases z2
        rw [e]
        exact ⟨ha, by rw [List.length_map]; exact hl, vs, _, rv, ha⟩
      · have z2 := (off e).symm.trans z
        cases z2
    · by_cases e : b = a
      · exact e
      · exact (z (off e)).elim
    · by_cases e : b = a
      · exact .inr ⟨_, _, at_ e⟩
      · exact .inl (off e)
end
/-- the goal that a head leaves, from the law's meaning -/
theorem law_end {l : PySem.W.OpenLaw} {n k : Nat} {q : Program} {loose : List Str} {XP : (Str → Option Value) → Heap → Prop} {YP : World → Heap → Prop} {d : DefRec} {x : Str} {F : FM}
    (hn : l.most = some n) (hn2 : n ≤ sizeLine) (hdf : d.params.defaults = []) (hr : RG k callerA)
    (hF : ∀ (w : World) (mg : Str → Option Value) (fa : Addr) (h : Heap), YP w h → h.Ns mainGlobals mg → mg d.name = some (.ref fa) →
      ∃ (K : PySem.W.Frag) (fd : FuncData), K.In h ∧ (∀ (s : Shared) (u : Value), BindsTo s fd ⟨[u], []⟩ [(x, u)]) ∧ ∀ base : Heap, K.In base → base.Ns mainGlobals mg → FnG l.prog w K mg base k fa fd [x] (spF K F))
    (hm : ∀ ns : List Int, ns.length ≤ n → ∃ h', F [.scr (ns.map IV.int)] [] = .ok (.bl true) h') : PySem.W.WalkO q loose XP YP l.row.toRowW d [] (fun f vs => PySem.call f vs) := by
  refine Att.attach_call hn hdf fun w s₀ s₁ mg mb fa o pm cd doc a vs ns G Y ho hd hcd hmg hobj hints hlen hg => ?_
  obtain ⟨K, fd, KX, hb, hG⟩ := hF w mg fa _ Y G.T.g hmg
  exact law_go KX G.T.g G.T.b G.T.builtins G.T.nolimit hg hobj hints (Nat.le_trans hlen hn2) hG hr hb (hm ns hlen)
end Mp

set_option maxHeartbeats 4000000
/-! Mp8: operators by all kinds, minus, what a def's body stands in; cells for evaluation. -/
namespace Mp
open PySem PySem.Spec PyProof.Rows L2

def orM (g g' : M2) : M2 := fun x y h => match g x y h with
  | .stuck => g' x y h
  | r => r
def gAdd : M2 := orM gAddI (orM gAddS (orM gAddL gAddT))
def gEqA : M2 := orM gEq (gEqD false)
def gNeA : M2 := orM gNe (gEqD true)
def gInA : M2 := orM (gInF false) (orM (gInD false) (gInS false))
def gNotInA : M2 := orM (gInF true) (orM (gInD true) (gInS true))
section
variable {X : Cx} {k : Nat}
theorem RG.u64 {A : Around} (r : RG k A) : A.units + 64 < cLine := by have := r.room.un; omega
theorem RG.u65 {A : Around} (r : RG k A) : A.units + 65 < cLine := by have := r.room.un; omega
theorem RG.u0 {A : Around} (r : RG k A) : A.units < cLine := by have := r.room.un; omega
theorem om_add : OpM X (binaryOp .Add) gAdd := OpM.or om_addI (OpM.or om_addS (OpM.or om_addL om_addT))
theorem om_eqA (hr : RG k X.A) : OpM X (compareOp .Eq) gEqA := OpM.or (om_eq hr.u64) (om_eqDic false (.inl ⟨rfl, rfl⟩) hr.u0)
theorem om_neA (hr : RG k X.A) : OpM X (compareOp .NotEq) gNeA := OpM.or (om_ne hr.u64) (om_eqDic true (.inr ⟨rfl, rfl⟩) hr.u0)
theorem om_inA (hr : RG k X.A) : OpM X (compareOp .In) gInA := OpM.or om_inF (OpM.or (om_inD hr.u65) om_inS)
theorem om_notInA (hr : RG k X.A) : OpM X (compareOp .NotIn) gNotInA := OpM.or om_notInF (OpM.or (om_notInD hr.u65) om_notInS)
end
def eNeg (m : EM) : EM := fun ρ h => (m ρ h).bind fun x h1 => match x with
  | .int i => .ok (.int (-i)) h1
  | _ => .stuck
section
variable {X : Cx} {W : WX} {a : Expr} {ma : EM} {pos : Pos}
theorem se_neg (ha : PE X a (T X.K W ma)) : PE X (.UnaryOp .USub a pos) (T X.K W (eNeg ma)) := (pe_un un_neg ha).imp fun σ H Q ⟨s, ρ, eh, rs, re, h⟩ => by
  subst eh
  refine T.bind rs re h fun x s1 v n h1 => ?_
  split at h1
  · rw [rv_int n.rv]
    exact ⟨_, rfl, h1.ret n.rs mk_int⟩
  · exact h1.elim
theorem boot_enum : bootBuiltins "enumerate" = some (.type "enumerate") := by decide +kernel
end
/-- what a body's context gives -/
theorem takesB {P : Program} {w : World} {K : PySem.W.Frag} {mg : Str → Option Value} {base : Heap} {N : List Str} {qual : Str} {scope : Scope} {f : Addr} {cd : Value} {A : Around} {outer : List Env} {s : Shared} {H : Hp} {E : XK} :
    Takes (cxOf (L2.CX P w) P w K mg base N qual scope f cd A outer s H E) (fun c d _ H' => E c d H') := takes_of rfl rfl rfl rfl
theorem passB {P : Program} {w : World} {K : PySem.W.Frag} {mg : Str → Option Value} {base : Heap} {N : List Str} {qual : Str} {scope : Scope} {f : Addr} {cd : Value} {A : Around} {outer : List Env} {s : Shared} {H : Hp} {E : XK} :
    PassesOwn (model P w) (cxOf (L2.CX P w) P w K mg base N qual scope f cd A outer s H E).A (cxOf (L2.CX P w) P w K mg base N qual scope f cd A outer s H E).env (cxOf (L2.CX P w) P w K mg base N qual scope f cd A outer s H E).xe := passes_of (X := cxOf (L2.CX P w) P w K mg base N qual scope f cd A outer s H E) rfl
/-! ### evaluation -/
theorem cell_last (h : List Cell) (c : Cell) : (h ++ [c])[h.length]? = some c := by simp
theorem cell_set (h : List Cell) (c d : Cell) : (h ++ [c]).set h.length d = h ++ [d] := by
  induction h with
  | nil => rfl
  | cons x h ih => simp [ih]
theorem cell_pre {h t : List Cell} {n : Nat} {c : Cell} (e : h[n]? = some c) : (h ++ t)[n]? = some c := by
  rw [List.getElem?_append_left (List.getElem?_eq_some_iff.mp e).1]
  exact e
end Mp
namespace Mp
open PySem PySem.Spec PyProof.Rows L2
/-- a def that may be called by its name -/
def Callee (P : Program) (w : World) (K : PySem.W.Frag) (mg : Str → Option Value) (base : Heap) (x : Str) (k : Nat) (ps : List Str) (F : FM) : Prop :=
  ∃ (f : Addr) (fd : FuncData), mg x = some (.ref f) ∧ PySem.W.keepIn K (.ref f) = true ∧ Binds K fd ps [] ∧ FnG P w K mg base k f fd ps (spF K F)
section
variable {X : Cx} {W : WX} {x : Str} {p pos : Pos} {e : Expr} {es : List Expr} {a : AM} {F : FM} {j k : Nat} {ps : List Str}
theorem se_callC (c : Callee X.prog X.w X.K X.mg X.base x k ps F) (hr : RG j X.A) (tk : Takes X W) (hg : Gl X x) (ha : PA X (e :: es) (TA_ X.K W a)) (hk : k ≤ j := by decide) (hdb : (x == ("__debug__" : Str)) = false := by decide)
    (he : starEach (e :: es) X.env = (false, eval e X.env) :: starEach es X.env := by rfl) (hpl : (backTo pos (starEach es X.env)).any (·.1) = false := by rfl) : PE X (.Call (.Name x p) (e :: es) [] pos) (T X.K W (eCall F a)) := by
  obtain ⟨f, fd, gm, kp, bd, G⟩ := c
  exact se_call (G.mono hk) hr hg gm kp bd tk ha hdb he hpl
theorem se_callC0 (c : Callee X.prog X.w X.K X.mg X.base x k ps F) (hr : RG j X.A) (tk : Takes X W) (hg : Gl X x) (hk : k ≤ j := by decide) (hdb : (x == ("__debug__" : Str)) = false := by decide) : PE X (.Call (.Name x p) [] [] pos) (T X.K W (eCall F aNil)) := by
  obtain ⟨f, fd, gm, kp, bd, G⟩ := c
  exact se_call0 (G.mono hk) hr hg gm kp bd tk hdb
end
/-! ### the errors of a module: a root, classes right under it -/
/-- isinstance of an error C: the root and ValueError say yes, another says yes if it is C -/
def isaTab (cs : List Str) (root : Str) : Str → IV → Option Bool := fun C c => if cs.contains C then (match c with
  | .glo D => if cs.contains D then some (D == root || C == D) else none
  | .ty n => if n = "ValueError" then some true else none
  | _ => none) else none
def kitB (cs : List Str) (root : Str) (K : PySem.W.Frag) : Bool := cs.all fun C => (cs.all fun D => decide (PySem.W.kitOne K (.ref (He.ga K C)) (.ref (He.ga K D)) = some (D == root || C == D))) && decide (PySem.W.kitOne K (.ref (He.ga K C)) (.type "ValueError") = some true)
theorem mem_of_contains {cs : List Str} {C : Str} (h : cs.contains C = true) : C ∈ cs := by simpa using h
theorem kit_ok {cs : List Str} {root : Str} {K : PySem.W.Frag} (h : kitB cs root K = true) (C : Str) (c : IV) (b : Bool) (e : isaTab cs root C c = some b) :
    cs.contains C = true ∧ ∃ cv, clsV K c = some cv ∧ PySem.W.kitOne K (.ref (He.ga K C)) cv = some b := by
  unfold isaTab at e
  split at e
  · rename_i hC
    refine ⟨hC, ?_⟩
    have h1 := List.all_eq_true.mp h C (mem_of_contains hC)
    obtain ⟨h2, h3⟩ := Bool.and_eq_true_iff.mp h1
    split at e
    · rename_i D
      split at e
      · rename_i hD
        cases e
        exact ⟨_, rfl, of_decide_eq_true (List.all_eq_true.mp h2 D (mem_of_contains hD))⟩
      · cases e
    · split at e
      · rename_i hn
        cases e
        rw [hn]
        exact ⟨_, rfl, of_decide_eq_true h3⟩
      · cases e
    · cases e
  · cases e
def errsB (cs : List Str) (root : Str) (P : Program) (K : PySem.W.Frag) : Bool := rootB P K && ((cs.all fun C => errB K (He.ga K "RollError") (rootF K) (He.ga K C)) && kitB cs root K)
structure ErrsT (P : Program) (K : PySem.W.Frag) (mg : Str → Option Value) (cs : List Str) (root : Str) (D f cc cd : Addr) : Prop where
  rt : RootT P K D f cc cd
  err : ∀ C, cs.contains C = true → ErrT K D f (He.ga K C)
  glo : ∀ C, cs.contains C = true → mg C = some (.ref (He.ga K C))
  kit : ∀ C c b, isaTab cs root C c = some b → cs.contains C = true ∧ ∃ cv, clsV K c = some cv ∧ PySem.W.kitOne K (.ref (He.ga K C)) cv = some b
  sup : mg "super" = none
theorem ErrsT.isa {P : Program} {K : PySem.W.Frag} {mg : Str → Option Value} {cs : List Str} {root : Str} {D f cc cd : Addr} (T : ErrsT P K mg cs root D f cc cd) (C : Str) (c : IV) (b : Bool) (e : isaTab cs root C c = some b) :
    ErrT K D f (He.ga K C) ∧ ∃ cv, clsV K c = some cv ∧ PySem.W.kitOne K (.ref (He.ga K C)) cv = some b :=
  ⟨T.err C (T.kit C c b e).1, (T.kit C c b e).2⟩
/-- from the head's checks -/
theorem errsT_of {P : Program} {K : PySem.W.Frag} {h : Heap} {mg : Str → Option Value} {cs : List Str} {root : Str} {n1 n2 p0 p1 p2 p3 p4 p5 q1 q2 q3 q4 : Pos} (X : K.In h) (G : h.Ns mainGlobals mg) (e : rootObs K = rootVal n1 n2 p0 p1 p2 p3 p4 p5 q1 q2 q3 q4) (hl : (p2.endLine == p4.line) = true) (c : errsB cs root P K = true)
    (hs : mg "super" = none) (hg : ∀ C, cs.contains C = true → (He.Fa.glo C).ok K = true) : ErrsT P K mg cs root (He.ga K "RollError") (rootF K) (rootCc K) (rootCd K) := by
  unfold errsB at c
  obtain ⟨c1, c⟩ := Bool.and_eq_true_iff.mp c
  obtain ⟨c2, c3⟩ := Bool.and_eq_true_iff.mp c
  exact ⟨root_ok e hl c1, fun C hC => errB_ok (List.all_eq_true.mp c2 C (mem_of_contains hC)), fun C hC => He.glo_ok X G (hg C hC), kit_ok c3, hs⟩
end Mp

set_option maxHeartbeats 4000000
/-! Mp9: evaluation of meanings. -/
namespace Mp
open PySem PySem.Spec PyProof.Rows L2
section
variable {x y : IV} {xs : List IV} {h : List Cell} {ρ : Env_} {C : Str} {b : Bool}
theorem r_bind {f : IV → List Cell → Res} : (Res.ok x h).bind f = f x h := rfl
theorem r_bindL {f : IV → List Cell → ResL} : (Res.ok x h).bindL f = f x h := rfl
theorem r_bindS {f : IV → List Cell → ResS} : (Res.ok x h).bindS ρ f = f x h := rfl
theorem r_bindB {f : Bool → List Cell → Res} : (Res.ok (.bl b) h).bindB f = f b h := rfl
theorem r_bindBS {f : Bool → List Cell → ResS} : (Res.ok (.bl b) h).bindBS ρ f = f b h := rfl
theorem l_bind {f : List IV → List Cell → Res} : (ResL.ok xs h).bind f = f xs h := rfl
theorem l_bindL {f : List IV → List Cell → ResL} : (ResL.ok xs h).bindL f = f xs h := rfl
theorem l_bindS {f : List IV → List Cell → ResS} : (ResL.ok xs h).bindS ρ f = f xs h := rfl
theorem s_bind {f : SM} : (ResS.nx ρ h).bind f = f ρ h := rfl
theorem s_bindR {f : SM} : (ResS.rt x h).bind f = ResS.rt x h := rfl
/-! one step each -/
theorem v_bin {g : M2} {ma mb : EM} {h1 h2 : List Cell} {r : Res} (e1 : ma ρ h = .ok x h1) (e2 : mb ρ h1 = .ok y h2) (e3 : g x y h2 = r) : eBin g ma mb ρ h = r := by
  unfold eBin
  rw [e1, r_bind, e2, r_bind, e3]
theorem v_call {F : FM} {a : AM} {h1 : List Cell} {r : Res} (e1 : a ρ h = .ok xs h1) (e2 : F xs h1 = r) : eCall F a ρ h = r := by
  unfold eCall
  rw [e1, l_bind, e2]
theorem v_cons {m : EM} {a : AM} {h1 h2 : List Cell} (e1 : m ρ h = .ok x h1) (e2 : a ρ h1 = .ok xs h2) : aCons m a ρ h = .ok (x :: xs) h2 := by
  unfold aCons
  rw [e1, r_bindL, e2, l_bindL]
theorem v_nil : aNil ρ h = .ok [] h := rfl
theorem v_c : eC x ρ h = .ok x h := rfl
theorem v_var {i : Nat} (e : ρ[i]? = some (some x)) : eVar i ρ h = .ok x h := by
  unfold eVar
  rw [e]
theorem v_if {c ma mb : EM} {h1 : List Cell} {r : Res} (e1 : c ρ h = .ok (.bl b) h1) (e2 : (if b = true then ma ρ h1 else mb ρ h1) = r) : eIf c ma mb ρ h = r := by
  unfold eIf
  rw [e1, r_bindB, e2]
theorem v_meth {T' : String} {m : EM} {a : AM} {g : IV → List IV → List Cell → Res} {h1 h2 : List Cell} {r : Res} (e1 : m ρ h = .ok x h1) (et : tyI T' x h1 = true) (e2 : a ρ h1 = .ok xs h2) (e3 : g x xs h2 = r) : eMeth T' m a g ρ h = r := by
  unfold eMeth
  rw [e1, r_bind, if_pos et, e2, l_bind, e3]
theorem v_lstC {a : AM} {h1 : List Cell} (e1 : a ρ h = .ok xs h1) (hz : xs.length ≤ sizeLine) : eLstC a ρ h = .ok (.ref h1.length) (h1 ++ [.lst xs]) := by
  unfold eLstC
  rw [e1, l_bind, if_pos hz]
theorem v_lst {a : AM} {h1 : List Cell} (e1 : a ρ h = .ok xs h1) (hz : xs.length ≤ sizeLine) : eLst a ρ h = .ok (.lst xs) h1 := by
  unfold eLst
  rw [e1, l_bind, if_pos hz]
theorem v_tup {a : AM} {h1 : List Cell} (e1 : a ρ h = .ok xs h1) (hz : xs.length ≤ sizeLine) : eTup a ρ h = .ok (.tup xs) h1 := by
  unfold eTup
  rw [e1, l_bind, if_pos hz]
theorem v_neg {m : EM} {h1 : List Cell} {i : Int} (e1 : m ρ h = .ok (.int i) h1) : eNeg m ρ h = .ok (.int (-i)) h1 := by
  unfold eNeg
  rw [e1, r_bind]
theorem v_not {m : EM} {h1 : List Cell} (e1 : m ρ h = .ok (.bl b) h1) : eNot m ρ h = .ok (.bl (!b)) h1 := by
  unfold eNot
  rw [e1, r_bindB]
theorem v_or {m m' : EM} {h1 : List Cell} {r : Res} (e1 : m ρ h = .ok (.bl b) h1) (e2 : (if b = true then .ok (.bl true) h1 else m' ρ h1) = r) : eOr m m' ρ h = r := by
  unfold eOr
  rw [e1, r_bindB, e2]
theorem v_and {m m' : EM} {h1 : List Cell} {r : Res} (e1 : m ρ h = .ok (.bl b) h1) (e2 : (if b = true then m' ρ h1 else .ok (.bl false) h1) = r) : eAnd m m' ρ h = r := by
  unfold eAnd
  rw [e1, r_bindB, e2]
/-! statements -/
theorem w_set {i : Nat} {e : EM} {h1 : List Cell} (e1 : e ρ h = .ok x h1) : sSet i e ρ h = .nx (ρ.set i (some x)) h1 := by
  unfold sSet
  rw [e1, r_bindS]
theorem w_seq {a b : SM} {ρ1 : Env_} {h1 : List Cell} {r : ResS} (e1 : a ρ h = .nx ρ1 h1) (e2 : b ρ1 h1 = r) : sSeq a b ρ h = r := by
  unfold sSeq
  rw [e1, s_bind, e2]
theorem w_seqR {a b : SM} {h1 : List Cell} (e1 : a ρ h = .rt x h1) : sSeq a b ρ h = .rt x h1 := by
  unfold sSeq
  rw [e1, s_bindR]
theorem w_ret {e : EM} {h1 : List Cell} (e1 : e ρ h = .ok x h1) : sRet e ρ h = .rt x h1 := by
  unfold sRet
  rw [e1, r_bindS]
theorem w_expr {e : EM} {h1 : List Cell} (e1 : e ρ h = .ok x h1) : sExpr e ρ h = .nx ρ h1 := by
  unfold sExpr
  rw [e1, r_bindS]
theorem w_if {c : EM} {a b' : SM} {h1 : List Cell} {r : ResS} (e1 : c ρ h = .ok (.bl b) h1) (e2 : (if b = true then a ρ h1 else b' ρ h1) = r) : sIf c a b' ρ h = r := by
  unfold sIf
  rw [e1, r_bindBS, e2]
theorem w_next : sNext ρ h = .nx ρ h := rfl
theorem w_asg {e : EM} {g : GM} {h1 : List Cell} {r : ResS} (e1 : e ρ h = .ok x h1) (e2 : onlyNx (g x ρ h1) = r) : sAsg e g ρ h = r := by
  unfold sAsg
  rw [e1, r_bindS, e2]
theorem w_par {i j : Nat} {a : AM} {h1 : List Cell} (e1 : a ρ h = .ok [x, y] h1) : sPar i j a ρ h = .nx ((ρ.set i (some x)).set j (some y)) h1 := by
  unfold sPar
  rw [e1, l_bindS]
/-- a store in a list's place -/
theorem w_subL {mo mi : EM} {n j : Nat} {h1 h2 : List Cell} (e1 : mo ρ h = .ok (.ref n) h1) (e2 : mi ρ h1 = .ok (.int j) h2) (e3 : h2[n]? = some (.lst xs)) (hj : j < xs.length) : onlyNx (gmSubL mo mi x ρ h) = .nx ρ (h2.set n (.lst (xs.set j x))) := by
  unfold gmSubL
  rw [e1, r_bindS, e2, r_bindS]
  simp only [e3]
  have e4 : ixN xs.length (j : Int) = some j := by
    unfold ixN
    rw [if_pos (Int.natCast_nonneg j), if_pos (by omega)]
    simp
  first
    | (simp [e4, onlyNx]; done)
    | (simp [hj, e4, onlyNx])
/-- a def -/
theorem f_rt {n m : Nat} {b : SM} {h1 : List Cell} (hl : xs.length = n) (e : b (xs.map some ++ List.replicate (m - n) none) h = .rt x h1) : mkF n m b xs h = .ok x h1 := by
  unfold mkF
  rw [if_pos hl, e]
theorem f_nx {n m : Nat} {b : SM} {h1 : List Cell} {ρ1 : Env_} (hl : xs.length = n) (e : b (xs.map some ++ List.replicate (m - n) none) h = .nx ρ1 h1) : mkF n m b xs h = .ok .non h1 := by
  unfold mkF
  rw [if_pos hl, e]
end
/-! numbers -/
theorem at_nat {α : Type} {xs : List α} {n : Nat} {x : α} (h : xs[n]? = some x) : atI xs (n : Int) = some x := by
  have hn := (List.getElem?_eq_some_iff.mp h).1
  unfold atI ixN
  rw [if_pos (Int.natCast_nonneg n), if_pos (by omega)]
  simpa using h
theorem log2_lt {n k : Nat} (h : n < 2 ^ k) (hk : 0 < k) : n.log2 < k := by
  by_cases hn : n = 0
  · subst hn
    simpa using hk
  · exact (Nat.log2_lt hn).mpr h
section
variable {i j : Int} {h : List Cell} {n : Nat} {xs : List IV} {x : IV} {b : Bool}
theorem mul_ok {a b : Nat} (hi : i.natAbs < 2 ^ a) (hj : j.natAbs < 2 ^ b) (ha : 0 < a := by decide) (hb : 0 < b := by decide) (hab : a + b ≤ 1000000 := by decide) : gMul (.int i) (.int j) h = .ok (.int (i * j)) h := by
  have h1 := log2_lt hi ha
  have h2 := log2_lt hj hb
  exact if_pos (decide_eq_true (show i.natAbs.log2 + j.natAbs.log2 < 1000000 by omega))
theorem mod_ok (hj : 0 < j) : gMod (.int i) (.int j) h = .ok (.int (i % j)) h := if_pos (decide_eq_true hj)
theorem div_ok (hj : 0 < j) (hb : j.natAbs < 2 ^ 64) : gDiv (.int i) (.int j) h = .ok (.int (i / j)) h :=
  if_pos (show (decide (0 < j) && decide (j.natAbs.log2 < 9000)) = true by rw [Bool.and_eq_true]; exact ⟨decide_eq_true hj, decide_eq_true (Nat.lt_trans (log2_lt hb (by decide)) (by decide))⟩)
theorem add_ok : gAdd (.int i) (.int j) h = .ok (.int (i + j)) h := rfl
theorem lt_ok : gLtI (.int i) (.int j) h = .ok (.bl (decide (i < j))) h := rfl
theorem le_ok : gLeI (.int i) (.int j) h = .ok (.bl (decide (i ≤ j))) h := rfl
theorem gt_ok : gGtI (.int i) (.int j) h = .ok (.bl (decide (j < i))) h := rfl
theorem ge_ok : gGeI (.int i) (.int j) h = .ok (.bl (decide (j ≤ i))) h := rfl
theorem abs_ok : gAbs [.int i] h = .ok (.int (if i < 0 then -i else i)) h := rfl
theorem int_ok : gInt [.int i] h = .ok (.int i) h := rfl
theorem intb_ok : gInt [.bl b] h = .ok (.int (if b then 1 else 0)) h := rfl
theorem len_scr : gLen [.scr xs] h = .ok (.int xs.length) h := rfl
theorem len_lst : gLen [.lst xs] h = .ok (.int xs.length) h := rfl
theorem ix_scr (e : atI xs i = some x) : gIx (.scr xs) (.int i) h = .ok x h := by simp [gIx, asT, asR, e]
theorem ix_lst (e : atI xs i = some x) : gIx (.lst xs) (.int i) h = .ok x h := by simp [gIx, asT, asR, asL, e]
theorem ix_tup (e : atI xs i = some x) : gIx (.tup xs) (.int i) h = .ok x h := by simp [gIx, asT, e]
theorem ix_ref (e0 : h[n]? = some (.lst xs)) (e : atI xs i = some x) : gIx (.ref n) (.int i) h = .ok x h := by simp [gIx, asT, asR, asL, e0, e]
theorem pow_ok (hj : 0 ≤ j) (hb : i.natAbs < 2 ^ 2000) (hj2 : j ≤ 100) : gPow (.int i) (.int j) h = .ok (.int (i ^ j.toNat)) h := by
  refine if_pos (show (decide (0 ≤ j) && decide ((Builtin.Int.intBits i : Int) * j ≤ 2 ^ 27)) = true from ?_)
  rw [Bool.and_eq_true]
  refine ⟨decide_eq_true hj, decide_eq_true ?_⟩
  have h1 : Builtin.Int.intBits i ≤ 2001 := by
    have z := log2_lt hb (by decide)
    unfold Builtin.Int.intBits
    first
      | (split <;> omega)
      | omega
  have h3 : (Builtin.Int.intBits i : Int) * j ≤ 2001 * 100 := by
    refine Int.mul_le_mul ?_ hj2 hj (by decide)
    omega
  omega
end
end Mp

set_option maxHeartbeats 4000000
/-! the defs of the law contraryrolls_k89_errors_keep_any_value, by mpgen.py -/
namespace Lw
open PySem PySem.Spec PyProof.Rows L2 Mp
def top (i : Nat) : Stmt := PySem.Challenge.pw_contraryrolls_k89_errors_keep_any_value.main.body.getD i (.Pass ⟨0, 0, 0, 0⟩)
abbrev FnP (K : PySem.W.Frag) (x : Str) (st : Stmt) (f : Addr) (fd : FuncData) : Prop := FunD K x x (defArgs st) (defBody st) (defScope st) [] [] f fd
structure Bi (mg : Str → Option Value) : Prop where
  n_ValueError : mg ("ValueError" : Str) = none
  n_abs : mg ("abs" : Str) = none
  n_all : mg ("all" : Str) = none
  n_enumerate : mg ("enumerate" : Str) = none
  n_int : mg ("int" : Str) = none
  n_isinstance : mg ("isinstance" : Str) = none
  n_len : mg ("len" : Str) = none
  n_list : mg ("list" : Str) = none
  n_max : mg ("max" : Str) = none
  n_min : mg ("min" : Str) = none
  n_range : mg ("range" : Str) = none
  n_repr : mg ("repr" : Str) = none
  n_sum : mg ("sum" : Str) = none
def errs0 : List Str := ["RollError", "BadWeb", "BadNumber", "BadMarks", "BadArrows", "BadNames", "BadOrder", "BadReader", "BadRoll", "TooMany", "BadPairs", "TooGreat", "Lets", "NoWay", "HasWay", "BadSaying"]
def errs1 : List Str := ["NotClosed", "BadPlaces", "NotSo", "BadMaking", "NotLed", "BadName", "BadWord", "NotLone", "NoThing", "WrongKind", "Held", "BadDeed", "BadKind", "NothingToUndo", "NothingToRedo", "NoNote"]
def errs2 : List Str := ["BadDesk"]
def errs : List Str := errs0 ++ errs1 ++ errs2

section
variable {P : Program} {w : World} {K : PySem.W.Frag} {mg : Str → Option Value} {base : Heap} {D fI cc cd : Addr}
def b_pot : SM :=
  (sSeq (sSet 2 (eIf (eBin gLtI (eVar 1) (eCall gLen (aCons (eVar 0) aNil))) (eBin gIx (eVar 0) (eVar 1)) (eBin gAdd (eBin gAdd (eBin gMod (eCall gSum (aCons (eSl (eVar 0) none (some (eC (.int 1)))) aNil)) (eC (.int 1000003))) (eBin gMul (eC (.int 1209)) (eVar 1))) (eC (.int 546)))))
  (sSeq (sSet 3 (eBin gMul (eBin gMod (eCall gInt (aCons (eCall gAbs (aCons (eVar 2) aNil)) aNil)) (eBin gPow (eBin gPow (eC (.int 10)) (eC (.int 60))) (eC (.int 5)))) (eCall gInt (aCons (eBin gGeI (eCall gAbs (aCons (eVar 2) aNil)) (eBin gPow (eC (.int 10)) (eC (.int 18)))) aNil))))
  (sSeq (sSet 4 (eBin gMod (eCall gInt (aCons (eVar 2) aNil)) (eC (.int 2305843009213693951))))
  (sRet (eLstC (aCons (eVar 3) (aCons (eBin gMod (eCall gInt (aCons (eBin gAdd (eBin gAdd (eBin gMul (eVar 4) (eC (.int 73239))) (eBin gMul (eBin gMul (eC (.int 8148)) (eVar 1)) (eVar 1))) (eC (.int 550))) aNil)) (eC (.int 2305843009213693921))) (aCons (eC (.int 0)) aNil))))))))
def F_pot : FM := mkF 2 5 b_pot
theorem sc_pot : FnScope ["script", "place", "cell", "own", "small"] ["script", "place"] (defScope (top 35)) := ⟨rfl, rfl, rfl, by decide +kernel, rfl, by decide +kernel, by decide +kernel⟩
set_option maxHeartbeats 0 in
theorem ok_pot {f : Addr} {fd : FuncData} (B : Bi mg) (ET : ErrsT P K mg errs "RollError" D fI cc cd)  (F : FnP K "_law_pot" (top 35) f fd) : FnG P w K mg base 2 f fd ["script", "place"] (spF K F_pot) :=
  Mp.FunD.okM F sc_pot rfl rfl fun cdv A outer s H E hr =>
  (ss_cons (ss_set (i := 2) sc_pot.nd rfl (.inl rfl) (se_if (st_cmp om_lt (se_var 1) (se_callB cm_len rfl B.n_len (by decide +kernel) (sa_cons (se_var 0) sa_nil))) (se_ix (se_var 0) (se_var 1)) (se_op om_add (se_op om_add (se_op om_mod (se_callB (cm_sum rfl) rfl B.n_sum (by decide +kernel) (sa_cons (se_sl (se_var 0) so_none (so_some se_int)) sa_nil)) se_int) (se_op om_mul se_int (se_var 1))) se_int)))
  (ss_cons (ss_set (i := 3) sc_pot.nd rfl (.inl rfl) (se_op om_mul (se_op om_mod (se_callTy cm_int rfl B.n_int (by decide +kernel) (sa_cons (se_callB cm_abs rfl B.n_abs (by decide +kernel) (sa_cons (se_var 2) sa_nil)) sa_nil)) (se_op om_pow (se_op om_pow se_int se_int) se_int)) (se_callTy cm_int rfl B.n_int (by decide +kernel) (sa_cons (se_cmp om_ge (se_callB cm_abs rfl B.n_abs (by decide +kernel) (sa_cons (se_var 2) sa_nil)) (se_op om_pow se_int se_int)) sa_nil))))
  (ss_cons (ss_set (i := 4) sc_pot.nd rfl (.inl rfl) (se_op om_mod (se_callTy cm_int rfl B.n_int (by decide +kernel) (sa_cons (se_var 2) sa_nil)) se_int))
  (ss_one (ss_ret (se_lstC (sa_cons (se_var 3) (sa_cons (se_op om_mod (se_callTy cm_int rfl B.n_int (by decide +kernel) (sa_cons (se_op om_add (se_op om_add (se_op om_mul (se_var 4) se_int) (se_op om_mul (se_op om_mul se_int (se_var 1)) (se_var 1))) se_int) sa_nil)) se_int) (sa_cons se_int sa_nil)))))))))
theorem bd_pot {f : Addr} {fd : FuncData} (F : FnP K "_law_pot" (top 35) f fd) : Binds K fd ["script", "place"] [] := F.bindsN fun _ _ _ _ _ _ us hl => match us, hl with | [_, _], _ => rfl
def b_take : SM :=
  (sSeq (sIf (eBin gGtI (eBin gIx (eVar 0) (eC (.int 0))) (eC (.int 0))) (sSeq (sSet 2 (eBin gMod (eCall gInt (aCons (eBin gIx (eVar 0) (eC (.int 0))) aNil)) (eVar 1)))
  (sSeq (sAsg (eBin gDiv (eBin gIx (eVar 0) (eC (.int 0))) (eVar 1)) (gmSubL (eVar 0) (eC (.int 0))))
  (sRet (eVar 2)))) sNext)
  (sSeq (sAsg (eBin gAdd (eBin gIx (eVar 0) (eC (.int 2))) (eC (.int 1))) (gmSubL (eVar 0) (eC (.int 2))))
  (sSeq (sSet 3 (eBin gIx (eLst (aCons (eC (.int 2147483647)) (aCons (eC (.int 2147483629)) (aCons (eC (.int 2147483587)) (aCons (eC (.int 2147483579)) (aCons (eC (.int 2147483563)) aNil)))))) (eBin gMod (eCall gInt (aCons (eBin gIx (eVar 0) (eC (.int 2))) aNil)) (eC (.int 5)))))
  (sSeq (sSet 4 (eBin gMod (eCall gInt (aCons (eBin gPow (eCall gInt (aCons (eBin gAdd (eBin gAdd (eBin gIx (eVar 0) (eC (.int 1))) (eBin gMul (eBin gMul (eC (.int 98399)) (eBin gIx (eVar 0) (eC (.int 2)))) (eBin gIx (eVar 0) (eC (.int 2))))) (eC (.int 431))) aNil)) (eC (.int 3))) aNil)) (eVar 3)))
  (sSeq (sSet 4 (eBin gMod (eCall gInt (aCons (eBin gMul (eVar 4) (eBin gAdd (eBin gMod (eCall gInt (aCons (eVar 4) aNil)) (eC (.int 10009))) (eBin gMul (eC (.int 89)) (eBin gIx (eVar 0) (eC (.int 2)))))) aNil)) (eC (.int 2305843009213693907))))
  (sRet (eBin gMod (eCall gInt (aCons (eBin gDiv (eVar 4) (eC (.int 173))) aNil)) (eVar 1))))))))
def F_take : FM := mkF 2 5 b_take
theorem sc_take : FnScope ["pot", "upto", "digit", "prime", "blend"] ["pot", "upto"] (defScope (top 36)) := ⟨rfl, rfl, rfl, by decide +kernel, rfl, by decide +kernel, by decide +kernel⟩
set_option maxHeartbeats 0 in
theorem ok_take {f : Addr} {fd : FuncData} (B : Bi mg) (ET : ErrsT P K mg errs "RollError" D fI cc cd)  (F : FnP K "_law_take" (top 36) f fd) : FnG P w K mg base 2 f fd ["pot", "upto"] (spF K F_take) :=
  Mp.FunD.okM F sc_take rfl rfl fun cdv A outer s H E hr =>
  (ss_cons (ss_if (st_cmp om_gt (se_ix (se_var 0) se_int) se_int) (ss_cons (ss_set (i := 2) sc_take.nd rfl (.inl rfl) (se_op om_mod (se_callTy cm_int rfl B.n_int (by decide +kernel) (sa_cons (se_ix (se_var 0) se_int) sa_nil)) (se_var 1)))
  (ss_cons (ss_asg (se_op om_div (se_ix (se_var 0) se_int) (se_var 1)) (sg_subL (se_var 0) se_int))
  (ss_one (ss_ret (se_var 2))))) ss_nil)
  (ss_cons (ss_asg (se_op om_add (se_ix (se_var 0) se_int) se_int) (sg_subL (se_var 0) se_int))
  (ss_cons (ss_set (i := 3) sc_take.nd rfl (.inl rfl) (se_ix (se_lst (sa_cons se_int (sa_cons se_int (sa_cons se_int (sa_cons se_int (sa_cons se_int sa_nil)))))) (se_op om_mod (se_callTy cm_int rfl B.n_int (by decide +kernel) (sa_cons (se_ix (se_var 0) se_int) sa_nil)) se_int)))
  (ss_cons (ss_set (i := 4) sc_take.nd rfl (.inl rfl) (se_op om_mod (se_callTy cm_int rfl B.n_int (by decide +kernel) (sa_cons (se_op om_pow (se_callTy cm_int rfl B.n_int (by decide +kernel) (sa_cons (se_op om_add (se_op om_add (se_ix (se_var 0) se_int) (se_op om_mul (se_op om_mul se_int (se_ix (se_var 0) se_int)) (se_ix (se_var 0) se_int))) se_int) sa_nil)) se_int) sa_nil)) (se_var 3)))
  (ss_cons (ss_set (i := 4) sc_take.nd rfl (.inl rfl) (se_op om_mod (se_callTy cm_int rfl B.n_int (by decide +kernel) (sa_cons (se_op om_mul (se_var 4) (se_op om_add (se_op om_mod (se_callTy cm_int rfl B.n_int (by decide +kernel) (sa_cons (se_var 4) sa_nil)) se_int) (se_op om_mul se_int (se_ix (se_var 0) se_int)))) sa_nil)) se_int))
  (ss_one (ss_ret (se_op om_mod (se_callTy cm_int rfl B.n_int (by decide +kernel) (sa_cons (se_op om_div (se_var 4) se_int) sa_nil)) (se_var 1)))))))))
theorem bd_take {f : Addr} {fd : FuncData} (F : FnP K "_law_take" (top 36) f fd) : Binds K fd ["pot", "upto"] [] := F.bindsN fun _ _ _ _ _ _ us hl => match us, hl with | [_, _], _ => rfl
def b_of : SM :=
  (sRet (eBin gIx (eVar 1) (eCall F_take (aCons (eVar 0) (aCons (eCall gLen (aCons (eVar 1) aNil)) aNil)))))
def F_of : FM := mkF 2 2 b_of
theorem sc_of : FnScope ["pot", "some"] ["pot", "some"] (defScope (top 37)) := ⟨rfl, rfl, rfl, by decide +kernel, rfl, by decide +kernel, by decide +kernel⟩
set_option maxHeartbeats 0 in
theorem ok_of {f : Addr} {fd : FuncData} (B : Bi mg) (ET : ErrsT P K mg errs "RollError" D fI cc cd) (C_take : Callee P w K mg base "_law_take" 2 ["pot", "upto"] F_take) (F : FnP K "_law_of" (top 37) f fd) : FnG P w K mg base 3 f fd ["pot", "some"] (spF K F_of) :=
  Mp.FunD.okM F sc_of rfl rfl fun cdv A outer s H E hr =>
  (ss_one (ss_ret (se_ix (se_var 1) (se_callC C_take hr takesB rfl (sa_cons (se_var 0) (sa_cons (se_callB cm_len rfl B.n_len (by decide +kernel) (sa_cons (se_var 1) sa_nil)) sa_nil))))))
theorem bd_of {f : Addr} {fd : FuncData} (F : FnP K "_law_of" (top 37) f fd) : Binds K fd ["pot", "some"] [] := F.bindsN fun _ _ _ _ _ _ us hl => match us, hl with | [_, _], _ => rfl
def b_cells : SM :=
  (sRet (eListRange (eCall gMax (aCons (eC (.int 1)) (aCons (eCall gMin (aCons (eVar 1) (aCons (eCall gLen (aCons (eVar 0) aNil)) aNil))) aNil)))))
def F_cells : FM := mkF 2 2 b_cells
theorem sc_cells : FnScope ["script", "most"] ["script", "most"] (defScope (top 38)) := ⟨rfl, rfl, rfl, by decide +kernel, rfl, by decide +kernel, by decide +kernel⟩
set_option maxHeartbeats 0 in
theorem ok_cells {f : Addr} {fd : FuncData} (B : Bi mg) (ET : ErrsT P K mg errs "RollError" D fI cc cd)  (F : FnP K "_law_cells" (top 38) f fd) : FnG P w K mg base 2 f fd ["script", "most"] (spF K F_cells) :=
  Mp.FunD.okM F sc_cells rfl rfl fun cdv A outer s H E hr =>
  (ss_one (ss_ret (se_listRange rfl rfl B.n_range rfl B.n_list (se_callB (cm_max rfl) rfl B.n_max (by decide +kernel) (sa_cons se_int (sa_cons (se_callB (cm_min rfl) rfl B.n_min (by decide +kernel) (sa_cons (se_var 1) (sa_cons (se_callB cm_len rfl B.n_len (by decide +kernel) (sa_cons (se_var 0) sa_nil)) sa_nil))) sa_nil))))))
theorem bd_cells {f : Addr} {fd : FuncData} (F : FnP K "_law_cells" (top 38) f fd) : Binds K fd ["script", "most"] [] := F.bindsN fun _ _ _ _ _ _ us hl => match us, hl with | [_, _], _ => rfl
def b_odd : SM :=
  (sSeq (sSet 1 (eLst (aCons (eC .non) (aCons (eC (.bl true)) (aCons (eC (.bl false)) (aCons (eC (.int 0)) (aCons (eNeg (eC (.int 1))) (aCons (eC (.str "")) (aCons (eC (.str "A")) (aCons (eC (.str "a b")) (aCons (eTup aNil) (aCons (eLst aNil) (aCons (eC (.dic [] [])) (aCons (eTup (aCons (eTup aNil) aNil)) (aCons (eTup (aCons (eC .non) aNil)) (aCons (eLst (aCons (eC (.int 0)) aNil)) (aCons (eTup (aCons (eC (.int 0)) aNil)) (aCons (eTup (aCons (eC (.str "a")) aNil)) (aCons (eLst (aCons (eC (.str "a")) aNil)) (aCons (eTup (aCons (eTup (aCons (eC (.int 0)) (aCons (eC (.int 1)) aNil))) aNil)) aNil))))))))))))))))))))
  (sRet (eCall F_of (aCons (eVar 0) (aCons (eBin gAdd (eVar 1) (eLst (aCons (eTup (aCons (eC (.bl true)) aNil)) (aCons (eC (.dic [.str "a"] [.int 1])) (aCons (eC (.str "abcdefghi")) (aCons (eC (.str "a1")) (aCons (eTup (aCons (eC (.str "")) aNil)) aNil))))))) aNil)))))
def F_odd : FM := mkF 1 2 b_odd
theorem sc_odd : FnScope ["pot", "some"] ["pot"] (defScope (top 39)) := ⟨rfl, rfl, rfl, by decide +kernel, rfl, by decide +kernel, by decide +kernel⟩
set_option maxHeartbeats 0 in
theorem ok_odd {f : Addr} {fd : FuncData} (B : Bi mg) (ET : ErrsT P K mg errs "RollError" D fI cc cd) (C_of : Callee P w K mg base "_law_of" 3 ["pot", "some"] F_of) (F : FnP K "_law_odd" (top 39) f fd) : FnG P w K mg base 4 f fd ["pot"] (spF K F_odd) :=
  Mp.FunD.okM F sc_odd rfl rfl fun cdv A outer s H E hr =>
  (ss_cons (ss_set (i := 1) sc_odd.nd rfl (.inl rfl) (se_lst (sa_cons se_non (sa_cons se_bl (sa_cons se_bl (sa_cons se_int (sa_cons (se_neg se_int) (sa_cons se_str (sa_cons se_str (sa_cons se_str (sa_cons (se_tup sa_nil) (sa_cons (se_lst sa_nil) (sa_cons se_dict0 (sa_cons (se_tup (sa_cons (se_tup sa_nil) sa_nil)) (sa_cons (se_tup (sa_cons se_non sa_nil)) (sa_cons (se_lst (sa_cons se_int sa_nil)) (sa_cons (se_tup (sa_cons se_int sa_nil)) (sa_cons (se_tup (sa_cons se_str sa_nil)) (sa_cons (se_lst (sa_cons se_str sa_nil)) (sa_cons (se_tup (sa_cons (se_tup (sa_cons se_int (sa_cons se_int sa_nil))) sa_nil)) sa_nil))))))))))))))))))))
  (ss_one (ss_ret (se_callC C_of hr takesB rfl (sa_cons (se_var 0) (sa_cons (se_op om_add (se_var 1) (se_lst (sa_cons (se_tup (sa_cons se_bl sa_nil)) (sa_cons se_dict1 (sa_cons se_str (sa_cons se_str (sa_cons (se_tup (sa_cons se_str sa_nil)) sa_nil))))))) sa_nil))))))
theorem bd_odd {f : Addr} {fd : FuncData} (F : FnP K "_law_odd" (top 39) f fd) : Binds K fd ["pot"] [] := F.bindsN fun _ _ _ _ _ _ us hl => match us, hl with | [_], _ => rfl
def b_made_too : SM :=
  (sSeq (sSet 1 (eLstC (aCons (eMk "BadPlaces" (eVar 0)) (aCons (eMk "NotSo" (eVar 0)) (aCons (eMk "BadMaking" (eVar 0)) (aCons (eMk "NotLed" (eVar 0)) (aCons (eMk "BadName" (eVar 0)) (aCons (eMk "BadWord" (eVar 0)) aNil))))))))
  (sSeq (sExpr (eMeth "list" (eVar 1) (aCons (eLst (aCons (eMk "NotLone" (eVar 0)) (aCons (eMk "NoThing" (eVar 0)) (aCons (eMk "WrongKind" (eVar 0)) (aCons (eMk "Held" (eVar 0)) (aCons (eMk "BadDeed" (eVar 0)) (aCons (eMk "BadKind" (eVar 0)) aNil))))))) aNil) gExtend))
  (sSeq (sExpr (eMeth "list" (eVar 1) (aCons (eLst (aCons (eMk "NothingToUndo" (eVar 0)) (aCons (eMk "NothingToRedo" (eVar 0)) (aCons (eMk "NoNote" (eVar 0)) (aCons (eMk "BadDesk" (eVar 0)) aNil))))) aNil) gExtend))
  (sRet (eVar 1)))))
def F_made_too : FM := mkF 1 2 b_made_too
theorem sc_made_too : FnScope ["value", "found"] ["value"] (defScope (top 41)) := ⟨rfl, rfl, rfl, by decide +kernel, rfl, by decide +kernel, by decide +kernel⟩
set_option maxHeartbeats 0 in
theorem ok_made_too {f : Addr} {fd : FuncData} (B : Bi mg) (ET : ErrsT P K mg errs "RollError" D fI cc cd)  (F : FnP K "_law_made_too" (top 41) f fd) : FnG P w K mg base 4 f fd ["value"] (spF K F_made_too) :=
  Mp.FunD.okM F sc_made_too rfl rfl fun cdv A outer s H E hr =>
  (ss_cons (ss_set (i := 1) sc_made_too.nd rfl (.inl rfl) (se_lstC (sa_cons (se_mk ET.rt (ET.err "BadPlaces" (by decide +kernel)) ET.sup hr (by decide) rfl (ET.glo "BadPlaces" (by decide +kernel)) (se_var 0)) (sa_cons (se_mk ET.rt (ET.err "NotSo" (by decide +kernel)) ET.sup hr (by decide) rfl (ET.glo "NotSo" (by decide +kernel)) (se_var 0)) (sa_cons (se_mk ET.rt (ET.err "BadMaking" (by decide +kernel)) ET.sup hr (by decide) rfl (ET.glo "BadMaking" (by decide +kernel)) (se_var 0)) (sa_cons (se_mk ET.rt (ET.err "NotLed" (by decide +kernel)) ET.sup hr (by decide) rfl (ET.glo "NotLed" (by decide +kernel)) (se_var 0)) (sa_cons (se_mk ET.rt (ET.err "BadName" (by decide +kernel)) ET.sup hr (by decide) rfl (ET.glo "BadName" (by decide +kernel)) (se_var 0)) (sa_cons (se_mk ET.rt (ET.err "BadWord" (by decide +kernel)) ET.sup hr (by decide) rfl (ET.glo "BadWord" (by decide +kernel)) (se_var 0)) sa_nil))))))))
  (ss_cons (ss_expr (se_meth mm_extend PySem.F.plainAttrs_list PySem.F.slot_list_extend PySem.F.type_list_extend (se_var 1) (sa_cons (se_lst (sa_cons (se_mk ET.rt (ET.err "NotLone" (by decide +kernel)) ET.sup hr (by decide) rfl (ET.glo "NotLone" (by decide +kernel)) (se_var 0)) (sa_cons (se_mk ET.rt (ET.err "NoThing" (by decide +kernel)) ET.sup hr (by decide) rfl (ET.glo "NoThing" (by decide +kernel)) (se_var 0)) (sa_cons (se_mk ET.rt (ET.err "WrongKind" (by decide +kernel)) ET.sup hr (by decide) rfl (ET.glo "WrongKind" (by decide +kernel)) (se_var 0)) (sa_cons (se_mk ET.rt (ET.err "Held" (by decide +kernel)) ET.sup hr (by decide) rfl (ET.glo "Held" (by decide +kernel)) (se_var 0)) (sa_cons (se_mk ET.rt (ET.err "BadDeed" (by decide +kernel)) ET.sup hr (by decide) rfl (ET.glo "BadDeed" (by decide +kernel)) (se_var 0)) (sa_cons (se_mk ET.rt (ET.err "BadKind" (by decide +kernel)) ET.sup hr (by decide) rfl (ET.glo "BadKind" (by decide +kernel)) (se_var 0)) sa_nil))))))) sa_nil)))
  (ss_cons (ss_expr (se_meth mm_extend PySem.F.plainAttrs_list PySem.F.slot_list_extend PySem.F.type_list_extend (se_var 1) (sa_cons (se_lst (sa_cons (se_mk ET.rt (ET.err "NothingToUndo" (by decide +kernel)) ET.sup hr (by decide) rfl (ET.glo "NothingToUndo" (by decide +kernel)) (se_var 0)) (sa_cons (se_mk ET.rt (ET.err "NothingToRedo" (by decide +kernel)) ET.sup hr (by decide) rfl (ET.glo "NothingToRedo" (by decide +kernel)) (se_var 0)) (sa_cons (se_mk ET.rt (ET.err "NoNote" (by decide +kernel)) ET.sup hr (by decide) rfl (ET.glo "NoNote" (by decide +kernel)) (se_var 0)) (sa_cons (se_mk ET.rt (ET.err "BadDesk" (by decide +kernel)) ET.sup hr (by decide) rfl (ET.glo "BadDesk" (by decide +kernel)) (se_var 0)) sa_nil))))) sa_nil)))
  (ss_one (ss_ret (se_var 1))))))
theorem bd_made_too {f : Addr} {fd : FuncData} (F : FnP K "_law_made_too" (top 41) f fd) : Binds K fd ["value"] [] := F.bindsN fun _ _ _ _ _ _ us hl => match us, hl with | [_], _ => rfl
def b_made : SM :=
  (sSeq (sSet 1 (eLstC (aCons (eMk "BadWeb" (eVar 0)) (aCons (eMk "BadNumber" (eVar 0)) (aCons (eMk "BadMarks" (eVar 0)) (aCons (eMk "BadArrows" (eVar 0)) (aCons (eMk "BadNames" (eVar 0)) aNil)))))))
  (sSeq (sExpr (eMeth "list" (eVar 1) (aCons (eLst (aCons (eMk "BadOrder" (eVar 0)) (aCons (eMk "BadReader" (eVar 0)) (aCons (eMk "BadRoll" (eVar 0)) (aCons (eMk "TooMany" (eVar 0)) (aCons (eMk "BadPairs" (eVar 0)) aNil)))))) aNil) gExtend))
  (sSeq (sExpr (eMeth "list" (eVar 1) (aCons (eLst (aCons (eMk "TooGreat" (eVar 0)) (aCons (eMk "Lets" (eVar 0)) (aCons (eMk "NoWay" (eVar 0)) (aCons (eMk "HasWay" (eVar 0)) (aCons (eMk "BadSaying" (eVar 0)) (aCons (eMk "NotClosed" (eVar 0)) aNil))))))) aNil) gExtend))
  (sRet (eBin gAdd (eVar 1) (eCall F_made_too (aCons (eVar 0) aNil)))))))
def F_made : FM := mkF 1 2 b_made
theorem sc_made : FnScope ["value", "found"] ["value"] (defScope (top 40)) := ⟨rfl, rfl, rfl, by decide +kernel, rfl, by decide +kernel, by decide +kernel⟩
set_option maxHeartbeats 0 in
theorem ok_made {f : Addr} {fd : FuncData} (B : Bi mg) (ET : ErrsT P K mg errs "RollError" D fI cc cd) (C_made_too : Callee P w K mg base "_law_made_too" 4 ["value"] F_made_too) (F : FnP K "_law_made" (top 40) f fd) : FnG P w K mg base 5 f fd ["value"] (spF K F_made) :=
  Mp.FunD.okM F sc_made rfl rfl fun cdv A outer s H E hr =>
  (ss_cons (ss_set (i := 1) sc_made.nd rfl (.inl rfl) (se_lstC (sa_cons (se_mk ET.rt (ET.err "BadWeb" (by decide +kernel)) ET.sup hr (by decide) rfl (ET.glo "BadWeb" (by decide +kernel)) (se_var 0)) (sa_cons (se_mk ET.rt (ET.err "BadNumber" (by decide +kernel)) ET.sup hr (by decide) rfl (ET.glo "BadNumber" (by decide +kernel)) (se_var 0)) (sa_cons (se_mk ET.rt (ET.err "BadMarks" (by decide +kernel)) ET.sup hr (by decide) rfl (ET.glo "BadMarks" (by decide +kernel)) (se_var 0)) (sa_cons (se_mk ET.rt (ET.err "BadArrows" (by decide +kernel)) ET.sup hr (by decide) rfl (ET.glo "BadArrows" (by decide +kernel)) (se_var 0)) (sa_cons (se_mk ET.rt (ET.err "BadNames" (by decide +kernel)) ET.sup hr (by decide) rfl (ET.glo "BadNames" (by decide +kernel)) (se_var 0)) sa_nil)))))))
  (ss_cons (ss_expr (se_meth mm_extend PySem.F.plainAttrs_list PySem.F.slot_list_extend PySem.F.type_list_extend (se_var 1) (sa_cons (se_lst (sa_cons (se_mk ET.rt (ET.err "BadOrder" (by decide +kernel)) ET.sup hr (by decide) rfl (ET.glo "BadOrder" (by decide +kernel)) (se_var 0)) (sa_cons (se_mk ET.rt (ET.err "BadReader" (by decide +kernel)) ET.sup hr (by decide) rfl (ET.glo "BadReader" (by decide +kernel)) (se_var 0)) (sa_cons (se_mk ET.rt (ET.err "BadRoll" (by decide +kernel)) ET.sup hr (by decide) rfl (ET.glo "BadRoll" (by decide +kernel)) (se_var 0)) (sa_cons (se_mk ET.rt (ET.err "TooMany" (by decide +kernel)) ET.sup hr (by decide) rfl (ET.glo "TooMany" (by decide +kernel)) (se_var 0)) (sa_cons (se_mk ET.rt (ET.err "BadPairs" (by decide +kernel)) ET.sup hr (by decide) rfl (ET.glo "BadPairs" (by decide +kernel)) (se_var 0)) sa_nil)))))) sa_nil)))
  (ss_cons (ss_expr (se_meth mm_extend PySem.F.plainAttrs_list PySem.F.slot_list_extend PySem.F.type_list_extend (se_var 1) (sa_cons (se_lst (sa_cons (se_mk ET.rt (ET.err "TooGreat" (by decide +kernel)) ET.sup hr (by decide) rfl (ET.glo "TooGreat" (by decide +kernel)) (se_var 0)) (sa_cons (se_mk ET.rt (ET.err "Lets" (by decide +kernel)) ET.sup hr (by decide) rfl (ET.glo "Lets" (by decide +kernel)) (se_var 0)) (sa_cons (se_mk ET.rt (ET.err "NoWay" (by decide +kernel)) ET.sup hr (by decide) rfl (ET.glo "NoWay" (by decide +kernel)) (se_var 0)) (sa_cons (se_mk ET.rt (ET.err "HasWay" (by decide +kernel)) ET.sup hr (by decide) rfl (ET.glo "HasWay" (by decide +kernel)) (se_var 0)) (sa_cons (se_mk ET.rt (ET.err "BadSaying" (by decide +kernel)) ET.sup hr (by decide) rfl (ET.glo "BadSaying" (by decide +kernel)) (se_var 0)) (sa_cons (se_mk ET.rt (ET.err "NotClosed" (by decide +kernel)) ET.sup hr (by decide) rfl (ET.glo "NotClosed" (by decide +kernel)) (se_var 0)) sa_nil))))))) sa_nil)))
  (ss_one (ss_ret (se_op om_add (se_var 1) (se_callC C_made_too hr takesB rfl (sa_cons (se_var 0) sa_nil))))))))
theorem bd_made {f : Addr} {fd : FuncData} (F : FnP K "_law_made" (top 40) f fd) : Binds K fd ["value"] [] := F.bindsN fun _ _ _ _ _ _ us hl => match us, hl with | [_], _ => rfl
def b_kinds_too : SM :=
  (sSeq (sSet 1 (eLstC (aCons (eCall (gIsa (isaTab errs "RollError")) (aCons (eVar 0) (aCons (eC (.glo "BadPlaces")) aNil))) (aCons (eCall (gIsa (isaTab errs "RollError")) (aCons (eVar 0) (aCons (eC (.glo "NotSo")) aNil))) (aCons (eCall (gIsa (isaTab errs "RollError")) (aCons (eVar 0) (aCons (eC (.glo "BadMaking")) aNil))) aNil)))))
  (sSeq (sExpr (eMeth "list" (eVar 1) (aCons (eLst (aCons (eCall (gIsa (isaTab errs "RollError")) (aCons (eVar 0) (aCons (eC (.glo "NotLed")) aNil))) (aCons (eCall (gIsa (isaTab errs "RollError")) (aCons (eVar 0) (aCons (eC (.glo "BadName")) aNil))) (aCons (eCall (gIsa (isaTab errs "RollError")) (aCons (eVar 0) (aCons (eC (.glo "BadWord")) aNil))) aNil)))) aNil) gExtend))
  (sSeq (sExpr (eMeth "list" (eVar 1) (aCons (eLst (aCons (eCall (gIsa (isaTab errs "RollError")) (aCons (eVar 0) (aCons (eC (.glo "NotLone")) aNil))) (aCons (eCall (gIsa (isaTab errs "RollError")) (aCons (eVar 0) (aCons (eC (.glo "NoThing")) aNil))) (aCons (eCall (gIsa (isaTab errs "RollError")) (aCons (eVar 0) (aCons (eC (.glo "WrongKind")) aNil))) aNil)))) aNil) gExtend))
  (sSeq (sExpr (eMeth "list" (eVar 1) (aCons (eLst (aCons (eCall (gIsa (isaTab errs "RollError")) (aCons (eVar 0) (aCons (eC (.glo "Held")) aNil))) (aCons (eCall (gIsa (isaTab errs "RollError")) (aCons (eVar 0) (aCons (eC (.glo "BadDeed")) aNil))) (aCons (eCall (gIsa (isaTab errs "RollError")) (aCons (eVar 0) (aCons (eC (.glo "BadKind")) aNil))) aNil)))) aNil) gExtend))
  (sSeq (sExpr (eMeth "list" (eVar 1) (aCons (eLst (aCons (eCall (gIsa (isaTab errs "RollError")) (aCons (eVar 0) (aCons (eC (.glo "NothingToUndo")) aNil))) (aCons (eCall (gIsa (isaTab errs "RollError")) (aCons (eVar 0) (aCons (eC (.glo "NothingToRedo")) aNil))) (aCons (eCall (gIsa (isaTab errs "RollError")) (aCons (eVar 0) (aCons (eC (.glo "NoNote")) aNil))) aNil)))) aNil) gExtend))
  (sSeq (sExpr (eMeth "list" (eVar 1) (aCons (eLst (aCons (eCall (gIsa (isaTab errs "RollError")) (aCons (eVar 0) (aCons (eC (.glo "BadDesk")) aNil))) aNil)) aNil) gExtend))
  (sRet (eVar 1))))))))
def F_kinds_too : FM := mkF 1 2 b_kinds_too
theorem sc_kinds_too : FnScope ["error", "found"] ["error"] (defScope (top 43)) := ⟨rfl, rfl, rfl, by decide +kernel, rfl, by decide +kernel, by decide +kernel⟩
set_option maxHeartbeats 0 in
theorem ok_kinds_too {f : Addr} {fd : FuncData} (B : Bi mg) (ET : ErrsT P K mg errs "RollError" D fI cc cd)  (F : FnP K "_law_kinds_too" (top 43) f fd) : FnG P w K mg base 2 f fd ["error"] (spF K F_kinds_too) :=
  Mp.FunD.okM F sc_kinds_too rfl rfl fun cdv A outer s H E hr =>
  (ss_cons (ss_set (i := 1) sc_kinds_too.nd rfl (.inl rfl) (se_lstC (sa_cons (se_callB (cm_isa ET.isa) rfl B.n_isinstance (by decide +kernel) (sa_cons (se_var 0) (sa_cons (se_globD rfl (ET.glo "BadPlaces" (by decide +kernel))) sa_nil))) (sa_cons (se_callB (cm_isa ET.isa) rfl B.n_isinstance (by decide +kernel) (sa_cons (se_var 0) (sa_cons (se_globD rfl (ET.glo "NotSo" (by decide +kernel))) sa_nil))) (sa_cons (se_callB (cm_isa ET.isa) rfl B.n_isinstance (by decide +kernel) (sa_cons (se_var 0) (sa_cons (se_globD rfl (ET.glo "BadMaking" (by decide +kernel))) sa_nil))) sa_nil)))))
  (ss_cons (ss_expr (se_meth mm_extend PySem.F.plainAttrs_list PySem.F.slot_list_extend PySem.F.type_list_extend (se_var 1) (sa_cons (se_lst (sa_cons (se_callB (cm_isa ET.isa) rfl B.n_isinstance (by decide +kernel) (sa_cons (se_var 0) (sa_cons (se_globD rfl (ET.glo "NotLed" (by decide +kernel))) sa_nil))) (sa_cons (se_callB (cm_isa ET.isa) rfl B.n_isinstance (by decide +kernel) (sa_cons (se_var 0) (sa_cons (se_globD rfl (ET.glo "BadName" (by decide +kernel))) sa_nil))) (sa_cons (se_callB (cm_isa ET.isa) rfl B.n_isinstance (by decide +kernel) (sa_cons (se_var 0) (sa_cons (se_globD rfl (ET.glo "BadWord" (by decide +kernel))) sa_nil))) sa_nil)))) sa_nil)))
  (ss_cons (ss_expr (se_meth mm_extend PySem.F.plainAttrs_list PySem.F.slot_list_extend PySem.F.type_list_extend (se_var 1) (sa_cons (se_lst (sa_cons (se_callB (cm_isa ET.isa) rfl B.n_isinstance (by decide +kernel) (sa_cons (se_var 0) (sa_cons (se_globD rfl (ET.glo "NotLone" (by decide +kernel))) sa_nil))) (sa_cons (se_callB (cm_isa ET.isa) rfl B.n_isinstance (by decide +kernel) (sa_cons (se_var 0) (sa_cons (se_globD rfl (ET.glo "NoThing" (by decide +kernel))) sa_nil))) (sa_cons (se_callB (cm_isa ET.isa) rfl B.n_isinstance (by decide +kernel) (sa_cons (se_var 0) (sa_cons (se_globD rfl (ET.glo "WrongKind" (by decide +kernel))) sa_nil))) sa_nil)))) sa_nil)))
  (ss_cons (ss_expr (se_meth mm_extend PySem.F.plainAttrs_list PySem.F.slot_list_extend PySem.F.type_list_extend (se_var 1) (sa_cons (se_lst (sa_cons (se_callB (cm_isa ET.isa) rfl B.n_isinstance (by decide +kernel) (sa_cons (se_var 0) (sa_cons (se_globD rfl (ET.glo "Held" (by decide +kernel))) sa_nil))) (sa_cons (se_callB (cm_isa ET.isa) rfl B.n_isinstance (by decide +kernel) (sa_cons (se_var 0) (sa_cons (se_globD rfl (ET.glo "BadDeed" (by decide +kernel))) sa_nil))) (sa_cons (se_callB (cm_isa ET.isa) rfl B.n_isinstance (by decide +kernel) (sa_cons (se_var 0) (sa_cons (se_globD rfl (ET.glo "BadKind" (by decide +kernel))) sa_nil))) sa_nil)))) sa_nil)))
  (ss_cons (ss_expr (se_meth mm_extend PySem.F.plainAttrs_list PySem.F.slot_list_extend PySem.F.type_list_extend (se_var 1) (sa_cons (se_lst (sa_cons (se_callB (cm_isa ET.isa) rfl B.n_isinstance (by decide +kernel) (sa_cons (se_var 0) (sa_cons (se_globD rfl (ET.glo "NothingToUndo" (by decide +kernel))) sa_nil))) (sa_cons (se_callB (cm_isa ET.isa) rfl B.n_isinstance (by decide +kernel) (sa_cons (se_var 0) (sa_cons (se_globD rfl (ET.glo "NothingToRedo" (by decide +kernel))) sa_nil))) (sa_cons (se_callB (cm_isa ET.isa) rfl B.n_isinstance (by decide +kernel) (sa_cons (se_var 0) (sa_cons (se_globD rfl (ET.glo "NoNote" (by decide +kernel))) sa_nil))) sa_nil)))) sa_nil)))
  (ss_cons (ss_expr (se_meth mm_extend PySem.F.plainAttrs_list PySem.F.slot_list_extend PySem.F.type_list_extend (se_var 1) (sa_cons (se_lst (sa_cons (se_callB (cm_isa ET.isa) rfl B.n_isinstance (by decide +kernel) (sa_cons (se_var 0) (sa_cons (se_globD rfl (ET.glo "BadDesk" (by decide +kernel))) sa_nil))) sa_nil)) sa_nil)))
  (ss_one (ss_ret (se_var 1)))))))))
theorem bd_kinds_too {f : Addr} {fd : FuncData} (F : FnP K "_law_kinds_too" (top 43) f fd) : Binds K fd ["error"] [] := F.bindsN fun _ _ _ _ _ _ us hl => match us, hl with | [_], _ => rfl
def b_kinds : SM :=
  (sSeq (sSet 1 (eLstC (aCons (eCall (gIsa (isaTab errs "RollError")) (aCons (eVar 0) (aCons (eC (.glo "BadWeb")) aNil))) (aCons (eCall (gIsa (isaTab errs "RollError")) (aCons (eVar 0) (aCons (eC (.glo "BadNumber")) aNil))) (aCons (eCall (gIsa (isaTab errs "RollError")) (aCons (eVar 0) (aCons (eC (.glo "BadMarks")) aNil))) aNil)))))
  (sSeq (sExpr (eMeth "list" (eVar 1) (aCons (eLst (aCons (eCall (gIsa (isaTab errs "RollError")) (aCons (eVar 0) (aCons (eC (.glo "BadArrows")) aNil))) (aCons (eCall (gIsa (isaTab errs "RollError")) (aCons (eVar 0) (aCons (eC (.glo "BadNames")) aNil))) (aCons (eCall (gIsa (isaTab errs "RollError")) (aCons (eVar 0) (aCons (eC (.glo "BadOrder")) aNil))) aNil)))) aNil) gExtend))
  (sSeq (sExpr (eMeth "list" (eVar 1) (aCons (eLst (aCons (eCall (gIsa (isaTab errs "RollError")) (aCons (eVar 0) (aCons (eC (.glo "BadReader")) aNil))) (aCons (eCall (gIsa (isaTab errs "RollError")) (aCons (eVar 0) (aCons (eC (.glo "BadRoll")) aNil))) (aCons (eCall (gIsa (isaTab errs "RollError")) (aCons (eVar 0) (aCons (eC (.glo "TooMany")) aNil))) aNil)))) aNil) gExtend))
  (sSeq (sExpr (eMeth "list" (eVar 1) (aCons (eLst (aCons (eCall (gIsa (isaTab errs "RollError")) (aCons (eVar 0) (aCons (eC (.glo "BadPairs")) aNil))) (aCons (eCall (gIsa (isaTab errs "RollError")) (aCons (eVar 0) (aCons (eC (.glo "TooGreat")) aNil))) (aCons (eCall (gIsa (isaTab errs "RollError")) (aCons (eVar 0) (aCons (eC (.glo "Lets")) aNil))) aNil)))) aNil) gExtend))
  (sSeq (sExpr (eMeth "list" (eVar 1) (aCons (eLst (aCons (eCall (gIsa (isaTab errs "RollError")) (aCons (eVar 0) (aCons (eC (.glo "NoWay")) aNil))) (aCons (eCall (gIsa (isaTab errs "RollError")) (aCons (eVar 0) (aCons (eC (.glo "HasWay")) aNil))) (aCons (eCall (gIsa (isaTab errs "RollError")) (aCons (eVar 0) (aCons (eC (.glo "BadSaying")) aNil))) aNil)))) aNil) gExtend))
  (sSeq (sExpr (eMeth "list" (eVar 1) (aCons (eLst (aCons (eCall (gIsa (isaTab errs "RollError")) (aCons (eVar 0) (aCons (eC (.glo "NotClosed")) aNil))) aNil)) aNil) gExtend))
  (sRet (eBin gAdd (eVar 1) (eCall F_kinds_too (aCons (eVar 0) aNil))))))))))
def F_kinds : FM := mkF 1 2 b_kinds
theorem sc_kinds : FnScope ["error", "found"] ["error"] (defScope (top 42)) := ⟨rfl, rfl, rfl, by decide +kernel, rfl, by decide +kernel, by decide +kernel⟩
set_option maxHeartbeats 0 in
theorem ok_kinds {f : Addr} {fd : FuncData} (B : Bi mg) (ET : ErrsT P K mg errs "RollError" D fI cc cd) (C_kinds_too : Callee P w K mg base "_law_kinds_too" 2 ["error"] F_kinds_too) (F : FnP K "_law_kinds" (top 42) f fd) : FnG P w K mg base 3 f fd ["error"] (spF K F_kinds) :=
  Mp.FunD.okM F sc_kinds rfl rfl fun cdv A outer s H E hr =>
  (ss_cons (ss_set (i := 1) sc_kinds.nd rfl (.inl rfl) (se_lstC (sa_cons (se_callB (cm_isa ET.isa) rfl B.n_isinstance (by decide +kernel) (sa_cons (se_var 0) (sa_cons (se_globD rfl (ET.glo "BadWeb" (by decide +kernel))) sa_nil))) (sa_cons (se_callB (cm_isa ET.isa) rfl B.n_isinstance (by decide +kernel) (sa_cons (se_var 0) (sa_cons (se_globD rfl (ET.glo "BadNumber" (by decide +kernel))) sa_nil))) (sa_cons (se_callB (cm_isa ET.isa) rfl B.n_isinstance (by decide +kernel) (sa_cons (se_var 0) (sa_cons (se_globD rfl (ET.glo "BadMarks" (by decide +kernel))) sa_nil))) sa_nil)))))
  (ss_cons (ss_expr (se_meth mm_extend PySem.F.plainAttrs_list PySem.F.slot_list_extend PySem.F.type_list_extend (se_var 1) (sa_cons (se_lst (sa_cons (se_callB (cm_isa ET.isa) rfl B.n_isinstance (by decide +kernel) (sa_cons (se_var 0) (sa_cons (se_globD rfl (ET.glo "BadArrows" (by decide +kernel))) sa_nil))) (sa_cons (se_callB (cm_isa ET.isa) rfl B.n_isinstance (by decide +kernel) (sa_cons (se_var 0) (sa_cons (se_globD rfl (ET.glo "BadNames" (by decide +kernel))) sa_nil))) (sa_cons (se_callB (cm_isa ET.isa) rfl B.n_isinstance (by decide +kernel) (sa_cons (se_var 0) (sa_cons (se_globD rfl (ET.glo "BadOrder" (by decide +kernel))) sa_nil))) sa_nil)))) sa_nil)))
  (ss_cons (ss_expr (se_meth mm_extend PySem.F.plainAttrs_list PySem.F.slot_list_extend PySem.F.type_list_extend (se_var 1) (sa_cons (se_lst (sa_cons (se_callB (cm_isa ET.isa) rfl B.n_isinstance (by decide +kernel) (sa_cons (se_var 0) (sa_cons (se_globD rfl (ET.glo "BadReader" (by decide +kernel))) sa_nil))) (sa_cons (se_callB (cm_isa ET.isa) rfl B.n_isinstance (by decide +kernel) (sa_cons (se_var 0) (sa_cons (se_globD rfl (ET.glo "BadRoll" (by decide +kernel))) sa_nil))) (sa_cons (se_callB (cm_isa ET.isa) rfl B.n_isinstance (by decide +kernel) (sa_cons (se_var 0) (sa_cons (se_globD rfl (ET.glo "TooMany" (by decide +kernel))) sa_nil))) sa_nil)))) sa_nil)))
  (ss_cons (ss_expr (se_meth mm_extend PySem.F.plainAttrs_list PySem.F.slot_list_extend PySem.F.type_list_extend (se_var 1) (sa_cons (se_lst (sa_cons (se_callB (cm_isa ET.isa) rfl B.n_isinstance (by decide +kernel) (sa_cons (se_var 0) (sa_cons (se_globD rfl (ET.glo "BadPairs" (by decide +kernel))) sa_nil))) (sa_cons (se_callB (cm_isa ET.isa) rfl B.n_isinstance (by decide +kernel) (sa_cons (se_var 0) (sa_cons (se_globD rfl (ET.glo "TooGreat" (by decide +kernel))) sa_nil))) (sa_cons (se_callB (cm_isa ET.isa) rfl B.n_isinstance (by decide +kernel) (sa_cons (se_var 0) (sa_cons (se_globD rfl (ET.glo "Lets" (by decide +kernel))) sa_nil))) sa_nil)))) sa_nil)))
  (ss_cons (ss_expr (se_meth mm_extend PySem.F.plainAttrs_list PySem.F.slot_list_extend PySem.F.type_list_extend (se_var 1) (sa_cons (se_lst (sa_cons (se_callB (cm_isa ET.isa) rfl B.n_isinstance (by decide +kernel) (sa_cons (se_var 0) (sa_cons (se_globD rfl (ET.glo "NoWay" (by decide +kernel))) sa_nil))) (sa_cons (se_callB (cm_isa ET.isa) rfl B.n_isinstance (by decide +kernel) (sa_cons (se_var 0) (sa_cons (se_globD rfl (ET.glo "HasWay" (by decide +kernel))) sa_nil))) (sa_cons (se_callB (cm_isa ET.isa) rfl B.n_isinstance (by decide +kernel) (sa_cons (se_var 0) (sa_cons (se_globD rfl (ET.glo "BadSaying" (by decide +kernel))) sa_nil))) sa_nil)))) sa_nil)))
  (ss_cons (ss_expr (se_meth mm_extend PySem.F.plainAttrs_list PySem.F.slot_list_extend PySem.F.type_list_extend (se_var 1) (sa_cons (se_lst (sa_cons (se_callB (cm_isa ET.isa) rfl B.n_isinstance (by decide +kernel) (sa_cons (se_var 0) (sa_cons (se_globD rfl (ET.glo "NotClosed" (by decide +kernel))) sa_nil))) sa_nil)) sa_nil)))
  (ss_one (ss_ret (se_op om_add (se_var 1) (se_callC C_kinds_too hr takesB rfl (sa_cons (se_var 0) sa_nil)))))))))))
theorem bd_kinds {f : Addr} {fd : FuncData} (F : FnP K "_law_kinds" (top 42) f fd) : Binds K fd ["error"] [] := F.bindsN fun _ _ _ _ _ _ us hl => match us, hl with | [_], _ => rfl
def b_right : SM :=
  (sSeq (sFor (wRange1 (eC (.int 3))) (gmName 1) (sSeq (sSet 2 (eCall F_odd (aCons (eVar 0) aNil)))
  (sSeq (sPar 3 4 (aCons (eCall F_made (aCons (eVar 2) aNil)) (aCons (eMk "RollError" (eVar 2)) aNil)))
  (sSeq (sFor (wEnum (eVar 3)) (gmTup 2 (gmCons (gmName 5) (gmCons (gmName 6) gmNil))) (sSeq (sIf (eOr (eBin gNeA (eValue errs (eVar 6)) (eVar 2)) (eOr (eBin gNeA (eCall gRepr (aCons (eValue errs (eVar 6)) aNil)) (eCall gRepr (aCons (eVar 2) aNil))) (eBin gNeA (eMeth "list" (eCall F_kinds (aCons (eVar 6) aNil)) (aCons (eC (.bl true)) aNil) gIndex) (eVar 5)))) (sRet (eC (.bl false))) sNext)
  (sSeq (sIf (eOr (eBin gNeA (eMeth "list" (eCall F_kinds (aCons (eVar 6) aNil)) (aCons (eC (.bl true)) aNil) gCount) (eC (.int 1))) (eNot (eCall (gIsa (isaTab errs "RollError")) (aCons (eVar 6) (aCons (eC (.glo "RollError")) aNil))))) (sRet (eC (.bl false))) sNext)
  (sIf (eNot (eCall (gIsa (isaTab errs "RollError")) (aCons (eVar 6) (aCons (eC (.ty "ValueError")) aNil)))) (sRet (eC (.bl false))) sNext))))
  (sIf (eOr (eBin gNeA (eCall gRepr (aCons (eValue errs (eVar 4)) aNil)) (eCall gRepr (aCons (eVar 2) aNil))) (eOr (eBin gInA (eC (.bl true)) (eCall F_kinds (aCons (eVar 4) aNil))) (eNot (eCall (gIsa (isaTab errs "RollError")) (aCons (eVar 4) (aCons (eC (.ty "ValueError")) aNil)))))) (sRet (eC (.bl false))) sNext)))))
  (sRet (eC (.bl true))))
def F_right : FM := mkF 1 7 b_right
theorem sc_right : FnScope ["pot", "lap", "value", "errors", "base", "at", "error"] ["pot"] (defScope (top 44)) := ⟨rfl, rfl, rfl, by decide +kernel, rfl, by decide +kernel, by decide +kernel⟩
set_option maxHeartbeats 0 in
theorem ok_right {f : Addr} {fd : FuncData} (B : Bi mg) (ET : ErrsT P K mg errs "RollError" D fI cc cd) (C_odd : Callee P w K mg base "_law_odd" 4 ["pot"] F_odd) (C_made : Callee P w K mg base "_law_made" 5 ["value"] F_made) (C_kinds : Callee P w K mg base "_law_kinds" 3 ["error"] F_kinds) (F : FnP K "_law_right" (top 44) f fd) : FnG P w K mg base 6 f fd ["pot"] (spF K F_right) :=
  Mp.FunD.okM F sc_right rfl rfl fun cdv A outer s H E hr =>
  (ss_cons (ss_for passB rfl (si_range1 rfl B.n_range se_int) (sg_name (i := 1) sc_right.nd rfl (.inl rfl)) (ss_cons (ss_set (i := 2) sc_right.nd rfl (.inl rfl) (se_callC C_odd hr takesB rfl (sa_cons (se_var 0) sa_nil)))
  (ss_cons (ss_par (i := 3) (j := 4) rfl sc_right.nd rfl rfl (by decide) rfl rfl (sa_cons (se_callC C_made hr takesB rfl (sa_cons (se_var 2) sa_nil)) (sa_cons (se_mk ET.rt (ET.err "RollError" (by decide +kernel)) ET.sup hr (by decide) rfl (ET.glo "RollError" (by decide +kernel)) (se_var 2)) sa_nil)))
  (ss_cons (ss_for passB rfl (si_enum rfl B.n_enumerate (se_var 3)) (sg_of (vs := [5, 6]) (sgv_tup rfl (sgvs_cons (sgv_name (i := 5) sc_right.nd rfl (.inl rfl) (by decide)) (sgvs_cons (sgv_name (i := 6) sc_right.nd rfl (.inl rfl) (by decide)) sgvs_nil)))) (ss_cons (ss_if (PW.pt (sw_or (st_cmp (om_neA hr) (se_value ET.err (se_var 6)) (se_var 2)) (sw_or (st_cmp (om_neA hr) (se_callB (cm_repr hr) rfl B.n_repr (by decide +kernel) (sa_cons (se_value ET.err (se_var 6)) sa_nil)) (se_callB (cm_repr hr) rfl B.n_repr (by decide +kernel) (sa_cons (se_var 2) sa_nil))) (sw_or1 (st_cmp (om_neA hr) (se_meth mm_index PySem.F.plainAttrs_list PySem.F.slot_list_index PySem.F.type_list_index (se_callC C_kinds hr takesB rfl (sa_cons (se_var 6) sa_nil)) (sa_cons se_bl sa_nil)) (se_var 5)))))) (ss_one (ss_ret se_bl)) ss_nil)
  (ss_cons (ss_if (PW.pt (sw_or (st_cmp (om_neA hr) (se_meth mm_count PySem.F.plainAttrs_list PySem.F.slot_list_count PySem.F.type_list_count (se_callC C_kinds hr takesB rfl (sa_cons (se_var 6) sa_nil)) (sa_cons se_bl sa_nil)) se_int) (sw_or1 (st_not (st_val (se_callB (cm_isa ET.isa) rfl B.n_isinstance (by decide +kernel) (sa_cons (se_var 6) (sa_cons (se_globD rfl (ET.glo "RollError" (by decide +kernel))) sa_nil)))))))) (ss_one (ss_ret se_bl)) ss_nil)
  (ss_one (ss_if (st_not (st_val (se_callB (cm_isa ET.isa) rfl B.n_isinstance (by decide +kernel) (sa_cons (se_var 6) (sa_cons (se_globT rfl B.n_ValueError (by decide +kernel)) sa_nil))))) (ss_one (ss_ret se_bl)) ss_nil)))))
  (ss_one (ss_if (PW.pt (sw_or (st_cmp (om_neA hr) (se_callB (cm_repr hr) rfl B.n_repr (by decide +kernel) (sa_cons (se_value ET.err (se_var 4)) sa_nil)) (se_callB (cm_repr hr) rfl B.n_repr (by decide +kernel) (sa_cons (se_var 2) sa_nil))) (sw_or (st_cmp (om_inA hr) se_bl (se_callC C_kinds hr takesB rfl (sa_cons (se_var 4) sa_nil))) (sw_or1 (st_not (st_val (se_callB (cm_isa ET.isa) rfl B.n_isinstance (by decide +kernel) (sa_cons (se_var 4) (sa_cons (se_globT rfl B.n_ValueError (by decide +kernel)) sa_nil))))))))) (ss_one (ss_ret se_bl)) ss_nil))))))
  (ss_one (ss_ret se_bl)))
theorem bd_right {f : Addr} {fd : FuncData} (F : FnP K "_law_right" (top 44) f fd) : Binds K fd ["pot"] [] := F.bindsN fun _ _ _ _ _ _ us hl => match us, hl with | [_], _ => rfl
def b_law : SM :=
  (sRet (eCall gAll (aCons (eLc (wSeq (eCall F_cells (aCons (eVar 0) (aCons (eC (.int 3)) aNil)))) (gmName 1) (eC (.bl true)) (eCall F_right (aCons (eCall F_pot (aCons (eVar 0) (aCons (eVar 1) aNil))) aNil)) [1]) aNil)))
def F_law : FM := mkF 1 2 b_law
theorem sc_law : FnScope ["script", "place"] ["script"] (defScope (top 45)) := ⟨rfl, rfl, rfl, by decide +kernel, rfl, by decide +kernel, by decide +kernel⟩
set_option maxHeartbeats 0 in
theorem ok_law {f : Addr} {fd : FuncData} (B : Bi mg) (ET : ErrsT P K mg errs "RollError" D fI cc cd) (C_cells : Callee P w K mg base "_law_cells" 2 ["script", "most"] F_cells) (C_right : Callee P w K mg base "_law_right" 6 ["pot"] F_right) (C_pot : Callee P w K mg base "_law_pot" 2 ["script", "place"] F_pot) (F : FnP K "law" (top 45) f fd) : FnG P w K mg base 7 f fd ["script"] (spF K F_law) :=
  Mp.FunD.okM F sc_law rfl rfl fun cdv A outer s H E hr =>
  (ss_one (ss_ret (se_callB (cm_all rfl) rfl B.n_all (by decide +kernel) (sa_cons (se_lc (own := [("place", 1)]) (vs := [1]) rfl rfl sc_law.nd (si_seq (se_callC C_cells hr takesB rfl (sa_cons (se_var 0) (sa_cons se_int sa_nil)))) (blkOk_by (N := ["script", "place"]) (sc := defScope (top 45)) (by decide +kernel)) (fun _ _ _ _ _ => (sgv_name (i := 1) sc_law.nd rfl (.inl rfl) (by decide))) (fun _ _ _ _ _ => sts_nil) (fun _ _ _ _ _ => (se_callC C_right hr takesF rfl (sa_cons (se_callC C_pot hr takesF rfl (sa_cons (se_var 0) (sa_cons (se_var 1) sa_nil))) sa_nil)))) sa_nil))))
theorem bd_law {f : Addr} {fd : FuncData} (F : FnP K "law" (top 45) f fd) : Binds K fd ["script"] [] := F.bindsN fun _ _ _ _ _ _ us hl => match us, hl with | [_], _ => rfl
end
end Lw

set_option maxHeartbeats 0
namespace Lw
open PySem PySem.Spec PyProof.Rows L2 Mp
theorem p60 {h : List Cell} : gPow (.int 10) (.int 60) h = .ok (.int 1000000000000000000000000000000000000000000000000000000000000) h := by rfl
theorem p300 {h : List Cell} : gPow (.int 1000000000000000000000000000000000000000000000000000000000000) (.int 5) h = .ok (.int 1000000000000000000000000000000000000000000000000000000000000000000000000000000000000000000000000000000000000000000000000000000000000000000000000000000000000000000000000000000000000000000000000000000000000000000000000000000000000000000000000000000000000000000000000000000000000000000000000000000000000) h := by rfl
theorem p18 {h : List Cell} : gPow (.int 10) (.int 18) h = .ok (.int 1000000000000000000) h := by rfl
def absI (c : Int) : Int := if c < 0 then -c else c
def ownI (c : Int) : Int := absI c % 1000000000000000000000000000000000000000000000000000000000000000000000000000000000000000000000000000000000000000000000000000000000000000000000000000000000000000000000000000000000000000000000000000000000000000000000000000000000000000000000000000000000000000000000000000000000000000000000000000000000000 * (if decide (1000000000000000000 ≤ absI c) then 1 else 0)
def smallI (c p : Int) : Int := (c % 2305843009213693951 * 73239 + 8148 * p * p + 550) % 2305843009213693921
theorem pot_val {xs : List IV} {p : Nat} {c : Int} {h : List Cell} (hp3 : p < 3)
    (hc : eIf (eBin gLtI (eVar 1) (eCall gLen (aCons (eVar 0) aNil))) (eBin gIx (eVar 0) (eVar 1)) (eBin gAdd (eBin gAdd (eBin gMod (eCall gSum (aCons (eSl (eVar 0) none (some (eC (.int 1)))) aNil)) (eC (.int 1000003))) (eBin gMul (eC (.int 1209)) (eVar 1))) (eC (.int 546))) [some (.scr xs), some (.int p), none, none, none] h = .ok (.int c) h) :
    F_pot [.scr xs, .int p] h = .ok (.ref h.length) (h ++ [.lst [.int (ownI c), .int (smallI c p), .int 0]]) := by
  refine f_rt rfl (w_seq (w_set hc) (w_seq (w_set (x := .int (ownI c)) (h1 := h) ?_) (w_seq (w_set (x := .int (c % 2305843009213693951)) (h1 := h) ?_) (w_ret ?_))))
  · refine v_bin (v_bin (v_call (v_cons (v_call (v_cons (v_var rfl) v_nil) abs_ok) v_nil) int_ok) (v_bin (v_bin v_c v_c p60) v_c p300) (mod_ok (by decide)))
      (v_call (v_cons (v_bin (v_call (v_cons (v_var rfl) v_nil) abs_ok) (v_bin v_c v_c p18) ge_ok) v_nil) intb_ok) ?_
    refine mul_ok (a := 1100) (b := 64) ?_ ?_
    · have : (0:Int) ≤ absI c % 1000000000000000000000000000000000000000000000000000000000000000000000000000000000000000000000000000000000000000000000000000000000000000000000000000000000000000000000000000000000000000000000000000000000000000000000000000000000000000000000000000000000000000000000000000000000000000000000000000000000000 := Int.emod_nonneg _ (by decide)
      have : absI c % 1000000000000000000000000000000000000000000000000000000000000000000000000000000000000000000000000000000000000000000000000000000000000000000000000000000000000000000000000000000000000000000000000000000000000000000000000000000000000000000000000000000000000000000000000000000000000000000000000000000000000 < 1000000000000000000000000000000000000000000000000000000000000000000000000000000000000000000000000000000000000000000000000000000000000000000000000000000000000000000000000000000000000000000000000000000000000000000000000000000000000000000000000000000000000000000000000000000000000000000000000000000000000 := Int.emod_lt_of_pos _ (by decide)
      show (absI c % 1000000000000000000000000000000000000000000000000000000000000000000000000000000000000000000000000000000000000000000000000000000000000000000000000000000000000000000000000000000000000000000000000000000000000000000000000000000000000000000000000000000000000000000000000000000000000000000000000000000000000).natAbs < _
      omega
    · show (if decide (_ ≤ absI c) = true then (1:Int) else 0).natAbs < 2 ^ 64
      generalize decide (_ ≤ absI c) = k
      cases k <;> decide
  · exact v_bin (v_call (v_cons (v_var rfl) v_nil) int_ok) v_c (mod_ok (by decide))
  · have h1 : (0:Int) ≤ c % 2305843009213693951 := Int.emod_nonneg _ (by decide)
    have h2 : c % 2305843009213693951 < 2305843009213693951 := Int.emod_lt_of_pos _ (by decide)
    have h3 : (8148 * (p:Int)).natAbs < 2 ^ 64 := by omega
    exact v_lstC (v_cons (v_var rfl) (v_cons (v_bin (v_call (v_cons (v_bin (v_bin (v_bin (v_var rfl) v_c (mul_ok (a := 64) (b := 64) (by omega) (by decide))) (v_bin (v_bin v_c (v_var rfl) (mul_ok (a := 64) (b := 64) (by decide) (by omega))) (v_var rfl) (mul_ok (a := 64) (b := 64) h3 (by omega))) add_ok) v_c add_ok) v_nil) int_ok) v_c (mod_ok (by decide))) (v_cons v_c v_nil))) (show 3 ≤ sizeLine by decide)
/-- the pot's cell -/
abbrev potC (a b d : Int) : Cell := .lst [.int a, .int b, .int d]
theorem tab5 {i : Int} (h0 : 0 ≤ i) (h5 : i < 5) : ∃ p : Int, atI [IV.int 2147483647, .int 2147483629, .int 2147483587, .int 2147483579, .int 2147483563] i = some (.int p) ∧ 0 < p ∧ p < 2147483648 := by
  have : i = 0 ∨ i = 1 ∨ i = 2 ∨ i = 3 ∨ i = 4 := by omega
  rcases this with rfl | rfl | rfl | rfl | rfl
  · exact ⟨_, rfl, by decide, by decide⟩
  · exact ⟨_, rfl, by decide, by decide⟩
  · exact ⟨_, rfl, by decide, by decide⟩
  · exact ⟨_, rfl, by decide, by decide⟩
  · exact ⟨_, rfl, by decide, by decide⟩
theorem take_val {n : Nat} {a b d u : Int} {h : List Cell} (hn : h[n]? = some (potC a b d)) (ha : 0 ≤ a) (hb : 0 ≤ b) (hb2 : b < 2305843009213693921) (hd : 0 ≤ d) (hd2 : d < 1000) (hu : 0 < u) (hu2 : u < 1000) :
    ∃ r a' d' : Int, 0 ≤ r ∧ r < u ∧ 0 ≤ a' ∧ 0 ≤ d' ∧ d' ≤ d + 1 ∧ F_take [.ref n, .int u] h = .ok (.int r) (h.set n (potC a' b d')) := by
  have hl : n < h.length := (List.getElem?_eq_some_iff.mp hn).1
  have hu3 : u.natAbs < 2 ^ 64 := by omega
  by_cases h0 : 0 < a
  · refine ⟨a % u, a / u, d, Int.emod_nonneg _ (by omega), Int.emod_lt_of_pos _ hu, Int.ediv_nonneg ha (by omega), hd, by omega, ?_⟩
    refine f_rt rfl (w_seqR (w_if (b := true) (h1 := h) ?_ ?_))
    · refine (v_bin (v_bin (v_var rfl) v_c (ix_ref hn (rfl : atI _ (0:Int) = some (.int a)))) v_c gt_ok).trans ?_
      rw [decide_eq_true h0]
    · rw [if_pos rfl]
      refine w_seq (w_set (x := .int (a % u)) (h1 := h) (v_bin (v_call (v_cons (v_bin (v_var rfl) v_c (ix_ref hn (rfl : atI _ (0:Int) = some (.int a)))) v_nil) int_ok) (v_var rfl) (mod_ok hu))) ?_
      refine w_seq (w_asg (v_bin (v_bin (v_var rfl) v_c (ix_ref hn (rfl : atI _ (0:Int) = some (.int a)))) (v_var rfl) (div_ok hu hu3)) (w_subL (j := 0) (v_var rfl) v_c hn (show 0 < 3 by decide))) ?_
      exact w_ret (v_var rfl)
  · have hh : (h.set n (potC a b (d + 1)))[n]? = some (potC a b (d + 1)) := List.getElem?_set_self hl
    obtain ⟨p, hp, hp1, hp2⟩ := tab5 (i := (d + 1) % 5) (Int.emod_nonneg _ (by decide)) (Int.emod_lt_of_pos _ (by decide))
    have b0 : (98399 * (d + 1)).natAbs < 2 ^ 64 := by omega
    have b1 : 0 ≤ 98399 * (d + 1) * (d + 1) ∧ 98399 * (d + 1) * (d + 1) ≤ 98399 * 1000 * 1000 := by
      constructor
      · exact Int.mul_nonneg (by omega) (by omega)
      · exact Int.mul_le_mul (by omega) (by omega) (by omega) (by omega)
    generalize hq : 98399 * (d + 1) * (d + 1) = q at b1
    have m1 : ∀ z : Int, 0 ≤ z % p ∧ z % p < p := fun z => ⟨Int.emod_nonneg _ (by omega), Int.emod_lt_of_pos _ hp1⟩
    obtain ⟨c1, c2⟩ := m1 ((b + q + 431) ^ 3)
    generalize hz : (b + q + 431) ^ 3 % p = z at c1 c2
    have e1 : 0 ≤ z % 10009 ∧ z % 10009 < 10009 := ⟨Int.emod_nonneg _ (by decide), Int.emod_lt_of_pos _ (by decide)⟩
    refine ⟨z * (z % 10009 + 89 * (d + 1)) % 2305843009213693907 / 173 % u, a, d + 1, Int.emod_nonneg _ (by omega), Int.emod_lt_of_pos _ hu, ha, by omega, by omega, ?_⟩
    refine f_rt rfl (w_seq (ρ1 := [some (.ref n), some (.int u), none, none, none]) (h1 := h) (w_if (b := false) (h1 := h) ?_ ?_) ?_)
    · refine (v_bin (v_bin (v_var rfl) v_c (ix_ref hn (rfl : atI _ (0:Int) = some (.int a)))) v_c gt_ok).trans ?_
      rw [decide_eq_false h0]
    · rw [if_neg Bool.false_ne_true]
      rfl
    · refine w_seq (w_asg (v_bin (v_bin (v_var rfl) v_c (ix_ref hn (rfl : atI _ (2:Int) = some (.int d)))) v_c add_ok) (w_subL (j := 2) (v_var rfl) v_c hn (show 2 < 3 by decide))) ?_
      show _ = ResS.rt _ (h.set n (potC a b (d + 1)))
      refine w_seq (w_set (x := .int p) (h1 := h.set n (potC a b (d + 1))) ?_) ?_
      · exact v_bin (v_lst (v_cons v_c (v_cons v_c (v_cons v_c (v_cons v_c (v_cons v_c v_nil))))) (show 5 ≤ sizeLine by decide)) (v_bin (v_call (v_cons (v_bin (v_var rfl) v_c (ix_ref hh (rfl : atI _ (2:Int) = some (.int (d + 1))))) v_nil) int_ok) v_c (mod_ok (by decide))) (ix_lst hp)
      · refine w_seq (w_set (x := .int z) (h1 := h.set n (potC a b (d + 1))) ?_) ?_
        · refine (v_bin (v_call (v_cons (v_bin (v_call (v_cons (v_bin (v_bin (v_bin (v_var rfl) v_c (ix_ref hh (rfl : atI _ (1:Int) = some (.int b)))) (v_bin (v_bin v_c (v_bin (v_var rfl) v_c (ix_ref hh (rfl : atI _ (2:Int) = some (.int (d + 1))))) (mul_ok (a := 64) (b := 64) (by decide) (by omega))) (v_bin (v_var rfl) v_c (ix_ref hh (rfl : atI _ (2:Int) = some (.int (d + 1))))) (mul_ok (a := 64) (b := 64) b0 (by omega))) add_ok) v_c add_ok) v_nil) int_ok) v_c (pow_ok (by decide) (by omega) (by decide))) v_nil) int_ok) (v_var rfl) (mod_ok hp1)).trans ?_
          rw [← hz, hq]
          rfl
        · refine w_seq (w_set (x := .int (z * (z % 10009 + 89 * (d + 1)) % 2305843009213693907)) (h1 := h.set n (potC a b (d + 1))) ?_) ?_
          · exact v_bin (v_call (v_cons (v_bin (v_var rfl) (v_bin (v_bin (v_call (v_cons (v_var rfl) v_nil) int_ok) v_c (mod_ok (by decide))) (v_bin v_c (v_bin (v_var rfl) v_c (ix_ref hh (rfl : atI _ (2:Int) = some (.int (d + 1))))) (mul_ok (a := 64) (b := 64) (by decide) (by omega))) add_ok) (mul_ok (a := 64) (b := 64) (by omega) (by omega))) v_nil) int_ok) v_c (mod_ok (by decide))
          · exact w_ret (v_bin (v_call (v_cons (v_bin (v_var rfl) v_c (div_ok (by decide) (by decide))) v_nil) int_ok) (v_var rfl) (mod_ok hu))
end Lw

set_option maxHeartbeats 0
namespace Lw
open PySem PySem.Spec PyProof.Rows L2 Mp
theorem of_val {n : Nat} {a b d : Int} {xs : List IV} {h : List Cell} (hn : h[n]? = some (potC a b d)) (ha : 0 ≤ a) (hb : 0 ≤ b) (hb2 : b < 2305843009213693921) (hd : 0 ≤ d) (hd2 : d < 1000) (hx : 0 < xs.length) (hx2 : xs.length < 1000) :
    ∃ (x : IV) (a' d' : Int), x ∈ xs ∧ 0 ≤ a' ∧ 0 ≤ d' ∧ d' ≤ d + 1 ∧ F_of [.ref n, .lst xs] h = .ok x (h.set n (potC a' b d')) := by
  obtain ⟨r, a', d', h1, h2, h3, h4, h5, e⟩ := take_val (u := (xs.length : Int)) hn ha hb hb2 hd hd2 (by omega) (by omega)
  obtain ⟨j, rfl⟩ := Int.eq_ofNat_of_zero_le h1
  have hj : j < xs.length := by omega
  refine ⟨xs[j], a', d', List.getElem_mem hj, h3, h4, h5, f_rt rfl (w_ret ?_)⟩
  exact v_bin (v_var rfl) (v_call (v_cons (v_var rfl) (v_cons (v_call (v_cons (v_var rfl) v_nil) len_lst) v_nil)) e) (ix_lst (at_nat (List.getElem?_eq_getElem hj)))
def menu1 : List IV := [.non, .bl true, .bl false, .int 0, .int (-1), .str "", .str "A", .str "a b", .tup [], .lst [], .dic [] [], .tup [.tup []], .tup [.non], .lst [.int 0], .tup [.int 0], .tup [.str "a"], .lst [.str "a"], .tup [.tup [.int 0, .int 1]]]
def menu2 : List IV := [.tup [.bl true], .dic [.str "a"] [.int 1], .str "abcdefghi", .str "a1", .tup [.str ""]]
def menu : List IV := menu1 ++ menu2
theorem add_lst {xs ys : List IV} {h : List Cell} (hz : xs.length + ys.length ≤ sizeLine) : gAdd (.lst xs) (.lst ys) h = .ok (.lst (xs ++ ys)) h := by
  unfold gAdd Mp.orM
  simp [gAddI, gII, gAddS, gAddL, asL, hz]
theorem odd_val {n : Nat} {a b d : Int} {h : List Cell} (hn : h[n]? = some (potC a b d)) (ha : 0 ≤ a) (hb : 0 ≤ b) (hb2 : b < 2305843009213693921) (hd : 0 ≤ d) (hd2 : d < 1000) :
    ∃ (x : IV) (a' d' : Int), x ∈ menu ∧ 0 ≤ a' ∧ 0 ≤ d' ∧ d' ≤ d + 1 ∧ F_odd [.ref n] h = .ok x (h.set n (potC a' b d')) := by
  obtain ⟨x, a', d', h1, h2, h3, h4, e⟩ := of_val (xs := menu) hn ha hb hb2 hd hd2 (by decide) (by decide)
  refine ⟨x, a', d', h1, h2, h3, h4, f_rt rfl (w_seq (w_set (x := .lst menu1) (h1 := h) (by rfl)) (w_ret (v_call (v_cons (v_var rfl) (v_cons (v_bin (v_var rfl) (show _ = Res.ok (.lst menu2) h by rfl) (add_lst (by exact (by decide : 23 ≤ sizeLine)))) v_nil)) e)))⟩
/-! ### the errors made -/
theorem ext_last {xs ys : List IV} {h : List Cell} (hz : xs.length + ys.length ≤ sizeLine) : gExtend (.ref h.length) [.lst ys] (h ++ [.lst xs]) = .ok .non (h ++ [.lst (xs ++ ys)]) := by
  unfold gExtend
  simp only [cell_last, asL, if_pos hz, cell_set]
theorem ty_last {xs : List IV} {h : List Cell} : tyI "list" (.ref h.length) (h ++ [.lst xs]) = true := by
  unfold tyI asR asL
  simp only [cell_last, Option.isSome]
theorem add_refs {n m : Nat} {xs ys : List IV} {h : List Cell} (e1 : h[n]? = some (.lst xs)) (e2 : h[m]? = some (.lst ys)) (hz : xs.length + ys.length ≤ sizeLine) : gAdd (.ref n) (.ref m) h = .ok (.lst (xs ++ ys)) h := by
  unfold gAdd Mp.orM
  simp [gAddI, gII, gAddS, gAddL, asL, e1, e2, hz]
def er (v : IV) (cs : List Str) : List IV := cs.map fun C => .err C v
def names1 : List Str := ["BadWeb", "BadNumber", "BadMarks", "BadArrows", "BadNames", "BadOrder", "BadReader", "BadRoll", "TooMany", "BadPairs", "TooGreat", "Lets", "NoWay", "HasWay", "BadSaying", "NotClosed"]
def names2 : List Str := ["BadPlaces", "NotSo", "BadMaking", "NotLed", "BadName", "BadWord", "NotLone", "NoThing", "WrongKind", "Held", "BadDeed", "BadKind", "NothingToUndo", "NothingToRedo", "NoNote", "BadDesk"]
def names : List Str := names1 ++ names2
theorem made_too_val (v : IV) (h : List Cell) : F_made_too [v] h = .ok (.ref h.length) (h ++ [.lst (er v names2)]) := by
  refine f_rt rfl (w_seq (w_set (v_lstC (xs := [.err "BadPlaces" v, .err "NotSo" v, .err "BadMaking" v, .err "NotLed" v, .err "BadName" v, .err "BadWord" v]) (h1 := h) (by rfl) (by exact (by decide : 6 ≤ sizeLine)))) ?_)
  refine w_seq (w_expr (v_meth (v_var rfl) ty_last (v_cons (v_lst (xs := [.err "NotLone" v, .err "NoThing" v, .err "WrongKind" v, .err "Held" v, .err "BadDeed" v, .err "BadKind" v]) (by rfl) (by exact (by decide : 6 ≤ sizeLine))) v_nil) (ext_last (by exact (by decide : 12 ≤ sizeLine))))) ?_
  refine w_seq (w_expr (v_meth (v_var rfl) ty_last (v_cons (v_lst (xs := [.err "NothingToUndo" v, .err "NothingToRedo" v, .err "NoNote" v, .err "BadDesk" v]) (by rfl) (by exact (by decide : 4 ≤ sizeLine))) v_nil) (ext_last (by exact (by decide : 16 ≤ sizeLine))))) ?_
  exact w_ret (v_var rfl)
theorem made_val (v : IV) (h : List Cell) : ∃ t : List Cell, F_made [v] h = .ok (.lst (er v names)) (h ++ t) := by
  refine ⟨[.lst (er v names1), .lst (er v names2)], ?_⟩
  refine f_rt rfl (w_seq (w_set (v_lstC (xs := [.err "BadWeb" v, .err "BadNumber" v, .err "BadMarks" v, .err "BadArrows" v, .err "BadNames" v]) (h1 := h) (by rfl) (by exact (by decide : 5 ≤ sizeLine)))) ?_)
  refine w_seq (w_expr (v_meth (v_var rfl) ty_last (v_cons (v_lst (xs := [.err "BadOrder" v, .err "BadReader" v, .err "BadRoll" v, .err "TooMany" v, .err "BadPairs" v]) (by rfl) (by exact (by decide : 5 ≤ sizeLine))) v_nil) (ext_last (by exact (by decide : 10 ≤ sizeLine))))) ?_
  refine w_seq (w_expr (v_meth (v_var rfl) ty_last (v_cons (v_lst (xs := [.err "TooGreat" v, .err "Lets" v, .err "NoWay" v, .err "HasWay" v, .err "BadSaying" v, .err "NotClosed" v]) (by rfl) (by exact (by decide : 6 ≤ sizeLine))) v_nil) (ext_last (by exact (by decide : 16 ≤ sizeLine))))) ?_
  have e0 : (h ++ [Cell.lst (er v names1)]) ++ [Cell.lst (er v names2)] = h ++ [.lst (er v names1), .lst (er v names2)] := by simp
  have e1 : (h ++ [Cell.lst (er v names1), .lst (er v names2)])[h.length]? = some (.lst (er v names1)) := by simp
  have e2 : (h ++ [Cell.lst (er v names1), .lst (er v names2)])[(h ++ [Cell.lst (er v names1)]).length]? = some (.lst (er v names2)) := by simp
  refine w_ret (v_bin (v_var rfl) (v_call (v_cons (v_var rfl) v_nil) ((made_too_val v (h ++ [.lst (er v names1)])).trans (by rw [e0]))) ((add_refs e1 e2 (by exact (by decide : 32 ≤ sizeLine))).trans ?_))
  rfl
/-! ### the kinds -/
def kd (C : Str) (cs : List Str) : List IV := cs.map fun D => .bl (D == ("RollError" : Str) || C == D)
theorem isa_ok {C D : Str} {v : IV} {h : List Cell} (hC : errs.contains C = true) (hD : errs.contains D = true) : gIsa (isaTab errs "RollError") [.err C v, .glo D] h = .ok (.bl (D == "RollError" || C == D)) h := by
  unfold gIsa isaTab
  simp only [if_pos hC, if_pos hD]
theorem isa_ve {C : Str} {v : IV} {h : List Cell} (hC : errs.contains C = true) : gIsa (isaTab errs "RollError") [.err C v, .ty "ValueError"] h = .ok (.bl true) h := by
  unfold gIsa isaTab
  simp only [if_pos hC, if_true]
theorem ev_isa {C D : Str} {v : IV} {h : List Cell} {ρ : Env_} {r : List IV} {a : AM} (hρ : ρ[0]? = some (some (.err C v))) (hC : errs.contains C = true) (hD : errs.contains D = true) (ha : a ρ h = .ok r h) :
    aCons (eCall (gIsa (isaTab errs "RollError")) (aCons (eVar 0) (aCons (eC (.glo D)) aNil))) a ρ h = .ok (.bl (D == "RollError" || C == D) :: r) h := v_cons (v_call (v_cons (v_var hρ) (v_cons v_c v_nil)) (isa_ok hC hD)) ha
theorem kinds_too_val {C : Str} (v : IV) (h : List Cell) (hC : errs.contains C = true) : F_kinds_too [.err C v] h = .ok (.ref h.length) (h ++ [.lst (kd C names2)]) := by
  refine f_rt rfl (w_seq (w_set (v_lstC (xs := kd C ["BadPlaces", "NotSo", "BadMaking"]) (h1 := h) (ev_isa rfl hC (by decide +kernel) (ev_isa rfl hC (by decide +kernel) (ev_isa rfl hC (by decide +kernel) (v_nil)))) (by exact (by decide : 3 ≤ sizeLine)))) ?_)
  refine w_seq (w_expr (v_meth (v_var rfl) ty_last (v_cons (v_lst (xs := kd C ["NotLed", "BadName", "BadWord"]) (ev_isa rfl hC (by decide +kernel) (ev_isa rfl hC (by decide +kernel) (ev_isa rfl hC (by decide +kernel) (v_nil)))) (by exact (by decide : 3 ≤ sizeLine))) v_nil) (ext_last (by exact (by decide : 6 ≤ sizeLine))))) ?_
  refine w_seq (w_expr (v_meth (v_var rfl) ty_last (v_cons (v_lst (xs := kd C ["NotLone", "NoThing", "WrongKind"]) (ev_isa rfl hC (by decide +kernel) (ev_isa rfl hC (by decide +kernel) (ev_isa rfl hC (by decide +kernel) (v_nil)))) (by exact (by decide : 3 ≤ sizeLine))) v_nil) (ext_last (by exact (by decide : 9 ≤ sizeLine))))) ?_
  refine w_seq (w_expr (v_meth (v_var rfl) ty_last (v_cons (v_lst (xs := kd C ["Held", "BadDeed", "BadKind"]) (ev_isa rfl hC (by decide +kernel) (ev_isa rfl hC (by decide +kernel) (ev_isa rfl hC (by decide +kernel) (v_nil)))) (by exact (by decide : 3 ≤ sizeLine))) v_nil) (ext_last (by exact (by decide : 12 ≤ sizeLine))))) ?_
  refine w_seq (w_expr (v_meth (v_var rfl) ty_last (v_cons (v_lst (xs := kd C ["NothingToUndo", "NothingToRedo", "NoNote"]) (ev_isa rfl hC (by decide +kernel) (ev_isa rfl hC (by decide +kernel) (ev_isa rfl hC (by decide +kernel) (v_nil)))) (by exact (by decide : 3 ≤ sizeLine))) v_nil) (ext_last (by exact (by decide : 15 ≤ sizeLine))))) ?_
  refine w_seq (w_expr (v_meth (v_var rfl) ty_last (v_cons (v_lst (xs := kd C ["BadDesk"]) (ev_isa rfl hC (by decide +kernel) (v_nil)) (by exact (by decide : 1 ≤ sizeLine))) v_nil) (ext_last (by exact (by decide : 16 ≤ sizeLine))))) ?_
  exact w_ret (v_var rfl)
theorem kinds_val {C : Str} (v : IV) (h : List Cell) (hC : errs.contains C = true) : ∃ t : List Cell, F_kinds [.err C v] h = .ok (.lst (kd C names)) (h ++ t) := by
  refine ⟨[.lst (kd C names1), .lst (kd C names2)], ?_⟩
  refine f_rt rfl (w_seq (w_set (v_lstC (xs := kd C ["BadWeb", "BadNumber", "BadMarks"]) (h1 := h) (ev_isa rfl hC (by decide +kernel) (ev_isa rfl hC (by decide +kernel) (ev_isa rfl hC (by decide +kernel) (v_nil)))) (by exact (by decide : 3 ≤ sizeLine)))) ?_)
  refine w_seq (w_expr (v_meth (v_var rfl) ty_last (v_cons (v_lst (xs := kd C ["BadArrows", "BadNames", "BadOrder"]) (ev_isa rfl hC (by decide +kernel) (ev_isa rfl hC (by decide +kernel) (ev_isa rfl hC (by decide +kernel) (v_nil)))) (by exact (by decide : 3 ≤ sizeLine))) v_nil) (ext_last (by exact (by decide : 6 ≤ sizeLine))))) ?_
  refine w_seq (w_expr (v_meth (v_var rfl) ty_last (v_cons (v_lst (xs := kd C ["BadReader", "BadRoll", "TooMany"]) (ev_isa rfl hC (by decide +kernel) (ev_isa rfl hC (by decide +kernel) (ev_isa rfl hC (by decide +kernel) (v_nil)))) (by exact (by decide : 3 ≤ sizeLine))) v_nil) (ext_last (by exact (by decide : 9 ≤ sizeLine))))) ?_
  refine w_seq (w_expr (v_meth (v_var rfl) ty_last (v_cons (v_lst (xs := kd C ["BadPairs", "TooGreat", "Lets"]) (ev_isa rfl hC (by decide +kernel) (ev_isa rfl hC (by decide +kernel) (ev_isa rfl hC (by decide +kernel) (v_nil)))) (by exact (by decide : 3 ≤ sizeLine))) v_nil) (ext_last (by exact (by decide : 12 ≤ sizeLine))))) ?_
  refine w_seq (w_expr (v_meth (v_var rfl) ty_last (v_cons (v_lst (xs := kd C ["NoWay", "HasWay", "BadSaying"]) (ev_isa rfl hC (by decide +kernel) (ev_isa rfl hC (by decide +kernel) (ev_isa rfl hC (by decide +kernel) (v_nil)))) (by exact (by decide : 3 ≤ sizeLine))) v_nil) (ext_last (by exact (by decide : 15 ≤ sizeLine))))) ?_
  refine w_seq (w_expr (v_meth (v_var rfl) ty_last (v_cons (v_lst (xs := kd C ["NotClosed"]) (ev_isa rfl hC (by decide +kernel) (v_nil)) (by exact (by decide : 1 ≤ sizeLine))) v_nil) (ext_last (by exact (by decide : 16 ≤ sizeLine))))) ?_
  have e0 : (h ++ [Cell.lst (kd C names1)]) ++ [Cell.lst (kd C names2)] = h ++ [.lst (kd C names1), .lst (kd C names2)] := by simp
  have e1 : (h ++ [Cell.lst (kd C names1), .lst (kd C names2)])[h.length]? = some (.lst (kd C names1)) := by simp
  have e2 : (h ++ [Cell.lst (kd C names1), .lst (kd C names2)])[(h ++ [Cell.lst (kd C names1)]).length]? = some (.lst (kd C names2)) := by simp
  refine w_ret (v_bin (v_var rfl) (v_call (v_cons (v_var rfl) v_nil) ((kinds_too_val v (h ++ [.lst (kd C names1)]) hC).trans (by rw [e0]))) ((add_refs e1 e2 (by exact (by decide : 32 ≤ sizeLine))).trans ?_))
  rfl
end Lw

set_option maxHeartbeats 0
namespace Lw
open PySem PySem.Spec PyProof.Rows L2 Mp
/-! ### what is said of a value -/
def noRef : IV → Bool
  | .ref _ => false
  | _ => true
theorem toDc_h {x : IV} {h : List Cell} (hx : noRef x = true) : toDc x h = toDc x [] := by
  cases x <;> first | rfl | cases hx
theorem toP_h {x : IV} {h : List Cell} (hx : noRef x = true) : toP x h = toP x [] := by
  cases x <;> first | rfl | cases hx
theorem ne_h {x y : IV} {h : List Cell} {b : Bool} (hx : noRef x = true) (hy : noRef y = true) (e : gNeA x y [] = .ok (.bl b) []) : gNeA x y h = .ok (.bl b) h := by
  unfold gNeA Mp.orM gNe gD2 at e ⊢
  rw [toDc_h hx, toDc_h hy]
  revert e
  cases toDc x [] with
  | none =>
    unfold gEqD
    cases x <;> cases y <;> intro e <;> first | (cases e; done) | skip
    dsimp only at e ⊢
    split at e
    · rename_i q
      rw [if_pos q]
      cases e
      rfl
    · cases e
  | some d =>
    cases toDc y [] with
    | none =>
      unfold gEqD
      cases x <;> cases y <;> intro e <;> first | (cases e; done) | skip
      dsimp only at e ⊢
      split at e
      · rename_i q
        rw [if_pos q]
        cases e
        rfl
      · cases e
    | some d' =>
      dsimp only
      by_cases q : (SeqAt.shaped d && SeqAt.shaped d') = true
      · rw [if_pos q, if_pos q]
        intro e
        cases e
        rfl
      · rw [if_neg q, if_neg q]
        unfold gEqD
        cases x <;> cases y <;> intro e <;> first | (cases e; done) | skip
        dsimp only at e ⊢
        split at e
        · rename_i q
          rw [if_pos q]
          cases e
          rfl
        · cases e
theorem repr_h {x : IV} {h : List Cell} {z : Str} (hx : noRef x = true) (e : gRepr [x] [] = .ok (.str z) []) : gRepr [x] h = .ok (.str z) h := by
  unfold gRepr at e ⊢
  dsimp only at e ⊢
  rw [toP_h hx]
  revert e
  cases toP x [] with
  | none => intro e; cases e
  | some d =>
    dsimp only
    split
    · intro e
      cases e
      rfl
    · intro e
      cases e
def goodB (v : IV) : Bool := noRef v && (match gNeA v v [] with
  | .ok (.bl false) [] => (match gRepr [v] [] with
    | .ok (.str z) [] => (match gNeA (.str z) (.str z) [] with
      | .ok (.bl false) [] => true
      | _ => false)
    | _ => false)
  | _ => false)
structure Good (v : IV) (z : Str) : Prop where
  ne : ∀ h : List Cell, gNeA v v h = .ok (.bl false) h
  rp : ∀ h : List Cell, gRepr [v] h = .ok (.str z) h
  nz : ∀ h : List Cell, gNeA (.str z) (.str z) h = .ok (.bl false) h
theorem good_of {v : IV} (h : goodB v = true) : ∃ z, Good v z := by
  unfold goodB at h
  obtain ⟨h0, h⟩ := Bool.and_eq_true_iff.mp h
  split at h
  · rename_i e1
    split at h
    · rename_i z e2
      split at h
      · rename_i e3
        exact ⟨z, fun h => ne_h h0 h0 e1, fun h => repr_h h0 e2, fun h => ne_h rfl rfl e3⟩
      · cases h
    · cases h
  · cases h
theorem menu_good : menu.all goodB = true := by decide +kernel
theorem good_menu {v : IV} (h : v ∈ menu) : ∃ z, Good v z := good_of (List.all_eq_true.mp menu_good v h)
end Lw

set_option maxHeartbeats 0
namespace Lw
open PySem PySem.Spec PyProof.Rows L2 Mp
/-! ### the kinds asked -/
theorem kd_flat (C : Str) : ∀ l : List Str, (kd C l).all flatI = true
  | [] => rfl
  | _ :: l => kd_flat C l
theorem index_ok {zs : List IV} {j : Nat} {h : List Cell} (f : zs.all flatI = true) (e : idxI (.bl true) zs = some j) : gIndex (.lst zs) [.bl true] h = .ok (.int j) h := by
  unfold gIndex
  simp only [asL, f, flatI, Bool.and_self, if_true, e]
theorem count_ok {zs : List IV} {h : List Cell} (f : zs.all flatI = true) : gCount (.lst zs) [.bl true] h = .ok (.int (zs.countP fun z => eqI z (.bl true) : Nat)) h := by
  unfold gCount
  simp only [asL, f, flatI, Bool.and_self, if_true]
theorem in_lst {zs : List IV} {h : List Cell} (f : zs.all flatI = true) : gInA (.bl true) (.lst zs) h = .ok (.bl (zs.any fun z => eqI z (.bl true))) h := by
  unfold gInA Mp.orM gInF
  simp [asT, asL, f, flatI]
def kindB (i : Nat) : Bool := match names[i]? with
  | some C => errs.contains C && (decide (idxI (.bl true) (kd C names) = some i) && decide (((kd C names).countP fun z => eqI z (.bl true)) = 1))
  | none => true
theorem kinds_all : (List.range 32).all kindB = true := by decide +kernel
theorem kind_at {i : Nat} {C : Str} (h : names[i]? = some C) : errs.contains C = true ∧ idxI (.bl true) (kd C names) = some i ∧ ((kd C names).countP fun z => eqI z (.bl true)) = 1 := by
  have hi : i < 32 := (List.getElem?_eq_some_iff.mp h).1
  have q := List.all_eq_true.mp kinds_all i (List.mem_range.mpr hi)
  unfold kindB at q
  rw [h] at q
  simp only [Bool.and_eq_true, decide_eq_true_eq] at q
  exact ⟨q.1, q.2.1, q.2.2⟩
theorem root_none : ((kd "RollError" names).any fun z => eqI z (.bl true)) = false := by decide +kernel
theorem root_in : errs.contains "RollError" = true := by decide +kernel
theorem v_value {C : Str} {v : IV} {m : EM} {ρ : Env_} {h h1 : List Cell} (e : m ρ h = .ok (.err C v) h1) (hC : errs.contains C = true) : eValue errs m ρ h = .ok v h1 := by
  unfold eValue
  rw [e, r_bind]
  simp only [if_pos hC]
theorem v_mk {C : Str} {v : IV} {m : EM} {ρ : Env_} {h h1 : List Cell} (e : m ρ h = .ok v h1) : eMk C m ρ h = .ok (.err C v) h1 := by
  unfold eMk
  rw [e, r_bind]
/-! ### loops -/
theorem loop_all {g : GM} {b : SM} {I : Env_ → List Cell → Prop} : ∀ (xs : List IV) (k : Nat),
    (∀ (i : Nat) (x : IV) (ρ : Env_) (h : List Cell), xs[i]? = some x → I ρ h → ∃ ρ' h', (onlyNx (g (.tup [.int ((k + i : Nat) : Int), x]) ρ h)).bind b = .nx ρ' h' ∧ I ρ' h') →
    ∀ (ρ : Env_) (h : List Cell), I ρ h → ∃ ρ' h', forLoop g b (enumI k xs) ρ h = .nx ρ' h' ∧ I ρ' h'
  | [], k, _, ρ, h, hI => ⟨ρ, h, rfl, hI⟩
  | x :: xs, k, step, ρ, h, hI => by
    obtain ⟨ρ1, h1, e1, hI1⟩ := step 0 x ρ h rfl hI
    obtain ⟨ρ2, h2, e2, hI2⟩ := loop_all xs (k + 1) (fun i y ρ h hy hI => by
      have z := step (i + 1) y ρ h (by simpa using hy) hI
      rw [show k + (i + 1) = k + 1 + i by omega] at z
      exact z) ρ1 h1 hI1
    refine ⟨ρ2, h2, ?_, hI2⟩
    show (match (onlyNx (g (.tup [.int k, x]) ρ h)).bind b with
      | .nx ρ' h' => forLoop g b (enumI (k + 1) xs) ρ' h'
      | .ct ρ' h' => forLoop g b (enumI (k + 1) xs) ρ' h'
      | .bk ρ' h' => .nx ρ' h'
      | r => r) = _
    rw [Nat.add_zero] at e1
    rw [e1]
    exact e2
theorem loop_seq {g : GM} {b : SM} {I : Nat → Env_ → List Cell → Prop} : ∀ (xs : List IV) (k : Nat),
    (∀ (i : Nat) (x : IV) (ρ : Env_) (h : List Cell), xs[i]? = some x → I (k + i) ρ h → ∃ ρ' h', (onlyNx (g x ρ h)).bind b = .nx ρ' h' ∧ I (k + i + 1) ρ' h') →
    ∀ (ρ : Env_) (h : List Cell), I k ρ h → ∃ ρ' h', forLoop g b xs ρ h = .nx ρ' h' ∧ I (k + xs.length) ρ' h'
  | [], k, _, ρ, h, hI => ⟨ρ, h, rfl, hI⟩
  | x :: xs, k, step, ρ, h, hI => by
    obtain ⟨ρ1, h1, e1, hI1⟩ := step 0 x ρ h rfl hI
    obtain ⟨ρ2, h2, e2, hI2⟩ := loop_seq xs (k + 1) (fun i y ρ h hy hI => by
      have z := step (i + 1) y ρ h (by simpa using hy) (by rw [show k + (i + 1) = k + 1 + i by omega]; exact hI)
      rw [show k + (i + 1) = k + 1 + i by omega] at z
      exact z) ρ1 h1 hI1
    refine ⟨ρ2, h2, ?_, by rw [List.length_cons, show k + (xs.length + 1) = k + 1 + xs.length by omega]; exact hI2⟩
    show (match (onlyNx (g x ρ h)).bind b with
      | .nx ρ' h' => forLoop g b xs ρ' h'
      | .ct ρ' h' => forLoop g b xs ρ' h'
      | .bk ρ' h' => .nx ρ' h'
      | r => r) = _
    rw [e1]
    exact e2
theorem no {r : Res} {h : List Cell} {k : Res} (e : r = .ok (.bl false) h) : (if false = true then (.ok (.bl true) h) else r) = .ok (.bl false) h := by
  rw [if_neg Bool.false_ne_true]
  exact e
abbrev inG : GM := gmTup 2 (gmCons (gmName 5) (gmCons (gmName 6) gmNil))
abbrev inB : SM := sSeq (sIf (eOr (eBin gNeA (eValue errs (eVar 6)) (eVar 2)) (eOr (eBin gNeA (eCall gRepr (aCons (eValue errs (eVar 6)) aNil)) (eCall gRepr (aCons (eVar 2) aNil))) (eBin gNeA (eMeth "list" (eCall F_kinds (aCons (eVar 6) aNil)) (aCons (eC (.bl true)) aNil) gIndex) (eVar 5)))) (sRet (eC (.bl false))) sNext)
  (sSeq (sIf (eOr (eBin gNeA (eMeth "list" (eCall F_kinds (aCons (eVar 6) aNil)) (aCons (eC (.bl true)) aNil) gCount) (eC (.int 1))) (eNot (eCall (gIsa (isaTab errs "RollError")) (aCons (eVar 6) (aCons (eC (.glo "RollError")) aNil))))) (sRet (eC (.bl false))) sNext)
  (sIf (eNot (eCall (gIsa (isaTab errs "RollError")) (aCons (eVar 6) (aCons (eC (.ty "ValueError")) aNil)))) (sRet (eC (.bl false))) sNext))
theorem ne_int {i : Int} {h : List Cell} : gNeA (.int i) (.int i) h = .ok (.bl false) h := by
  refine ne_h rfl rfl ?_
  unfold gNeA Mp.orM gNe gD2
  have e : PyData.eqv (.int i) (.int i) = true := by
    first
      | simp [PyData.eqv]
      | (unfold PyData.eqv; simp)
  have q : (SeqAt.shaped (.int i) && SeqAt.shaped (.int i)) = true := by
    first
      | rfl
      | (simp [SeqAt.shaped, PyData.canLay0, PyData.depth])
  simp only [toDc, toD, if_pos q, e, Bool.not_true]
theorem step_in {v z0 z1 z3 z4 : IV} {p : Option IV} {z : Str} {i : Nat} {C : Str} (hv : Good v z) (hC : names[i]? = some C) (h : List Cell) (x5 x6 : Option IV) :
    ∃ t : List Cell, (onlyNx (inG (.tup [.int (i : Nat), .err C v]) [p, some z1, some v, some z3, some z4, x5, x6] h)).bind inB = .nx [p, some z1, some v, some z3, some z4, some (.int (i : Nat)), some (.err C v)] (h ++ t) := by
  obtain ⟨k1, k2, k3⟩ := kind_at hC
  obtain ⟨t1, e1⟩ := kinds_val (C := C) v h k1
  obtain ⟨t2, e2⟩ := kinds_val (C := C) v (h ++ t1) k1
  refine ⟨t1 ++ t2, ?_⟩
  show inB [p, some z1, some v, some z3, some z4, some (.int (i : Nat)), some (.err C v)] h = _
  rw [← List.append_assoc]
  have hidx : gIndex (.lst (kd C names)) [.bl true] (h ++ t1) = .ok (.int i) (h ++ t1) := index_ok (kd_flat C names) k2
  have hcnt : gCount (.lst (kd C names)) [.bl true] (h ++ t1 ++ t2) = .ok (.int 1) (h ++ t1 ++ t2) := by
    rw [count_ok (kd_flat C names), k3]
    rfl
  refine w_seq (ρ1 := [p, some z1, some v, some z3, some z4, some (.int (i : Nat)), some (.err C v)]) (h1 := h ++ t1) (w_if (b := false) (h1 := h ++ t1) ?_ ?_) (w_seq (ρ1 := [p, some z1, some v, some z3, some z4, some (.int (i : Nat)), some (.err C v)]) (h1 := h ++ t1 ++ t2) (w_if (b := false) (h1 := h ++ t1 ++ t2) ?_ ?_) (w_if (b := false) (h1 := h ++ t1 ++ t2) ?_ ?_))
  · refine v_or (v_bin (v_value (v_var rfl) k1) (v_var rfl) (hv.ne h)) ?_
    rw [if_neg Bool.false_ne_true]
    refine v_or (v_bin (v_call (v_cons (v_value (v_var rfl) k1) v_nil) (hv.rp h)) (v_call (v_cons (v_var rfl) v_nil) (hv.rp h)) (hv.nz h)) ?_
    rw [if_neg Bool.false_ne_true]
    exact v_bin (v_meth (v_call (v_cons (v_var rfl) v_nil) e1) rfl (v_cons v_c v_nil) hidx) (v_var rfl) ne_int
  · rw [if_neg Bool.false_ne_true]
    rfl
  · refine v_or (v_bin (v_meth (v_call (v_cons (v_var rfl) v_nil) e2) rfl (v_cons v_c v_nil) hcnt) v_c ne_int) ?_
    rw [if_neg Bool.false_ne_true]
    refine (v_not (b := true) (v_call (v_cons (v_var rfl) (v_cons v_c v_nil)) ((isa_ok k1 root_in).trans ?_))).trans rfl
    rfl
  · rw [if_neg Bool.false_ne_true]
    rfl
  · exact (v_not (b := true) (v_call (v_cons (v_var rfl) (v_cons v_c v_nil)) (isa_ve k1))).trans rfl
  · rw [if_neg Bool.false_ne_true]
    rfl
end Lw

set_option maxHeartbeats 0
namespace Lw
open PySem PySem.Spec PyProof.Rows L2 Mp
theorem er_at {v x : IV} {i : Nat} {l : List Str} (h : (er v l)[i]? = some x) : ∃ C, l[i]? = some C ∧ x = .err C v := by
  unfold er at h
  rw [List.getElem?_map] at h
  cases e : l[i]? with
  | none =>
    rw [e] at h
    cases h
  | some C =>
    rw [e] at h
    exact ⟨C, rfl, (Option.some.inj h).symm⟩
abbrev outB : SM := (sSeq (sSet 2 (eCall F_odd (aCons (eVar 0) aNil)))
  (sSeq (sPar 3 4 (aCons (eCall F_made (aCons (eVar 2) aNil)) (aCons (eMk "RollError" (eVar 2)) aNil)))
  (sSeq (sFor (wEnum (eVar 3)) inG inB)
  (sIf (eOr (eBin gNeA (eCall gRepr (aCons (eValue errs (eVar 4)) aNil)) (eCall gRepr (aCons (eVar 2) aNil))) (eOr (eBin gInA (eC (.bl true)) (eCall F_kinds (aCons (eVar 4) aNil))) (eNot (eCall (gIsa (isaTab errs "RollError")) (aCons (eVar 4) (aCons (eC (.ty "ValueError")) aNil)))))) (sRet (eC (.bl false))) sNext))))
/-- what stands behind k laps -/
def Lap (n : Nat) (k : Nat) (ρ : Env_) (h : List Cell) : Prop := ∃ (x1 x2 x3 x4 x5 x6 : Option IV) (a b d : Int), ρ = [some (.ref n), x1, x2, x3, x4, x5, x6] ∧ h[n]? = some (potC a b d) ∧ 0 ≤ a ∧ 0 ≤ b ∧ b < 2305843009213693921 ∧ 0 ≤ d ∧ d ≤ k
theorem lap_step {n i : Nat} {x : IV} {ρ : Env_} {h : List Cell} (hi : i < 3) (hI : Lap n i ρ h) : ∃ ρ' h', (onlyNx (gmName 1 x ρ h)).bind outB = .nx ρ' h' ∧ Lap n (i + 1) ρ' h' := by
  obtain ⟨x1, x2, x3, x4, x5, x6, a, b, d, rfl, hn, ha, hb, hb2, hd, hd2⟩ := hI
  obtain ⟨v, a', d', hm, ha', hd', hd2', eo⟩ := odd_val hn ha hb hb2 hd (by omega)
  obtain ⟨z, hv⟩ := good_menu hm
  have hl : n < h.length := (List.getElem?_eq_some_iff.mp hn).1
  have hn1 : (h.set n (potC a' b d'))[n]? = some (potC a' b d') := List.getElem?_set_self hl
  obtain ⟨t, em⟩ := made_val v (h.set n (potC a' b d'))
  obtain ⟨ρ2, h2, eL, y5, y6, t2, rfl, rfl⟩ := loop_all (g := inG) (b := inB) (I := fun ρ h' => ∃ (y5 y6 : Option IV) (t2 : List Cell), ρ = [some (.ref n), some x, some v, some (.lst (er v names)), some (.err "RollError" v), y5, y6] ∧ h' = h.set n (potC a' b d') ++ t ++ t2) (er v names) 0
    (fun i y ρ h' hy ⟨y5, y6, t2, e1, e2⟩ => by
      obtain ⟨C, hC, rfl⟩ := er_at hy
      subst e1 e2
      obtain ⟨t3, e3⟩ := step_in (p := some (.ref n)) (z0 := x) (z1 := x) (z3 := .lst (er v names)) (z4 := .err "RollError" v) hv hC (h.set n (potC a' b d') ++ t ++ t2) y5 y6
      rw [Nat.zero_add]
      exact ⟨_, _, e3, _, _, t2 ++ t3, rfl, by simp⟩)
    [some (.ref n), some x, some v, some (.lst (er v names)), some (.err "RollError" v), x5, x6] (h.set n (potC a' b d') ++ t) ⟨x5, x6, [], rfl, by simp⟩
  obtain ⟨t4, ek⟩ := kinds_val (C := "RollError") v (h.set n (potC a' b d') ++ t ++ t2) root_in
  refine ⟨[some (.ref n), some x, some v, some (.lst (er v names)), some (.err "RollError" v), y5, y6], h.set n (potC a' b d') ++ t ++ t2 ++ t4, ?_, some x, some v, _, _, y5, y6, a', b, d', rfl, ?_, ha', hb, hb2, hd', by omega⟩
  · show outB [some (.ref n), some x, x2, x3, x4, x5, x6] h = _
    refine w_seq (w_set (x := v) (h1 := h.set n (potC a' b d')) (v_call (v_cons (v_var rfl) v_nil) eo)) ?_
    refine w_seq (w_par (x := .lst (er v names)) (y := .err "RollError" v) (h1 := h.set n (potC a' b d') ++ t) (v_cons (v_call (v_cons (v_var rfl) v_nil) em) (v_cons (v_mk (v_var rfl)) v_nil))) ?_
    refine w_seq (ρ1 := [some (.ref n), some x, some v, some (.lst (er v names)), some (.err "RollError" v), y5, y6]) (h1 := h.set n (potC a' b d') ++ t ++ t2) eL ?_
    refine w_if (b := false) (h1 := h.set n (potC a' b d') ++ t ++ t2 ++ t4) ?_ ?_
    · refine v_or (v_bin (v_call (v_cons (v_value (v_var rfl) root_in) v_nil) (hv.rp _)) (v_call (v_cons (v_var rfl) v_nil) (hv.rp _)) (hv.nz _)) ?_
      rw [if_neg Bool.false_ne_true]
      refine v_or (v_bin v_c (v_call (v_cons (v_var rfl) v_nil) ek) ((in_lst (kd_flat _ names)).trans (by rw [root_none]))) ?_
      rw [if_neg Bool.false_ne_true]
      exact (v_not (b := true) (v_call (v_cons (v_var rfl) (v_cons v_c v_nil)) (isa_ve root_in))).trans rfl
    · rw [if_neg Bool.false_ne_true]
      rfl
  · rw [List.append_assoc, List.append_assoc]
    exact cell_pre hn1
theorem right_val {n : Nat} {a b : Int} {h : List Cell} (hn : h[n]? = some (potC a b 0)) (ha : 0 ≤ a) (hb : 0 ≤ b) (hb2 : b < 2305843009213693921) : ∃ h', F_right [.ref n] h = .ok (.bl true) h' := by
  obtain ⟨ρ', h', e, hI⟩ := loop_seq (g := gmName 1) (b := outB) (I := Lap n) (rangeI 0 3) 0 (fun i x ρ h hx hI => by
    have hi : i < 3 := (List.getElem?_eq_some_iff.mp hx).1
    rw [Nat.zero_add] at hI ⊢
    exact lap_step hi hI) [some (.ref n), none, none, none, none, none, none] h ⟨none, none, none, none, none, none, a, b, 0, rfl, hn, ha, hb, hb2, by decide, by decide⟩
  exact ⟨h', f_rt rfl (w_seq (ρ1 := ρ') (h1 := h') e (w_ret v_c))⟩
/-! ### the law -/
theorem cells_val {ns : List Int} {h : List Cell} (hl : ns.length ≤ 63) : F_cells [.scr (ns.map IV.int), .int 3] h = .ok (.lst (rangeI 0 (max 1 (min 3 (ns.length : Int))))) h := by
  refine f_rt rfl (w_ret ?_)
  have e1 : gMin [.int 3, .int ((ns.map IV.int).length : Int)] h = .ok (.int (min 3 (ns.length : Int))) h := by
    unfold gMin
    simp only [List.length_map]
    congr 2
    omega
  have e2 : gMax [.int 1, .int (min 3 (ns.length : Int))] h = .ok (.int (max 1 (min 3 (ns.length : Int)))) h := by
    unfold gMax
    dsimp only
    congr 2
    omega
  have e3 : eCall gMax (aCons (eC (.int 1)) (aCons (eCall gMin (aCons (eVar 1) (aCons (eCall gLen (aCons (eVar 0) aNil)) aNil))) aNil)) [some (.scr (ns.map IV.int)), some (.int 3)] h = .ok (.int (max 1 (min 3 (ns.length : Int)))) h :=
    v_call (v_cons v_c (v_cons (v_call (v_cons (v_var rfl) (v_cons (v_call (v_cons (v_var rfl) v_nil) len_scr) v_nil)) e1) v_nil)) e2
  unfold eListRange
  show Res.bind (eCall gMax _ [some (.scr (ns.map IV.int)), some (.int 3)] h) _ = _
  rw [e3, r_bind]
  exact if_pos ⟨by omega, by omega⟩
theorem lc_all {g : GM} {t e : EM} {ρ : Env_} : ∀ (xs : List IV) (n : Nat) (h : List Cell), n + xs.length ≤ sizeLine →
    (∀ x ∈ xs, ∀ h, ∃ ρ' h' h2, g x ρ h = .nx ρ' h' ∧ t ρ' h' = .ok (.bl true) h' ∧ e ρ' h' = .ok (.bl true) h2) →
    ∃ m h', lcLoop g t e ρ xs (List.replicate n (.bl true)) h = .ok (.lst (List.replicate m (.bl true))) h'
  | [], n, h, _, _ => ⟨n, h, rfl⟩
  | x :: xs, n, h, hz, hs => by
    obtain ⟨ρ', h', h2, e1, e2, e3⟩ := hs x List.mem_cons_self h
    rw [List.length_cons] at hz
    obtain ⟨m, h3, e4⟩ := lc_all xs (n + 1) h2 (by omega) fun y hy => hs y (List.mem_cons_of_mem _ hy)
    refine ⟨m, h3, ?_⟩
    unfold lcLoop
    rw [e1]
    dsimp only
    rw [e2]
    dsimp only
    rw [e3]
    dsimp only
    rw [if_pos (by rw [List.length_replicate]; omega), show List.replicate n (IV.bl true) ++ [IV.bl true] = List.replicate (n + 1) (IV.bl true) by rw [List.replicate_succ']]
    exact e4
theorem all_true {m : Nat} {h : List Cell} : gAll [.lst (List.replicate m (.bl true))] h = .ok (.bl true) h := by
  have e : blsI (List.replicate m (IV.bl true)) = some (List.replicate m true) := by
    induction m with
    | zero => rfl
    | succ m ih => rw [List.replicate_succ, List.replicate_succ, blsI, ih]; rfl
  unfold gAll
  simp [asR, asL, e]
theorem cell_of {ns : List Int} {p : Nat} {h : List Cell} (hp : p < ns.length ∨ (ns = [] ∧ p = 0)) : ∃ c : Int, eIf (eBin gLtI (eVar 1) (eCall gLen (aCons (eVar 0) aNil))) (eBin gIx (eVar 0) (eVar 1)) (eBin gAdd (eBin gAdd (eBin gMod (eCall gSum (aCons (eSl (eVar 0) none (some (eC (.int 1)))) aNil)) (eC (.int 1000003))) (eBin gMul (eC (.int 1209)) (eVar 1))) (eC (.int 546))) [some (.scr (ns.map IV.int)), some (.int p), none, none, none] h = .ok (.int c) h := by
  rcases hp with hp | ⟨rfl, rfl⟩
  · refine ⟨ns[p], v_if (b := true) (h1 := h) ((v_bin (v_var rfl) (v_call (v_cons (v_var rfl) v_nil) len_scr) lt_ok).trans ?_) ?_⟩
    · rw [decide_eq_true (by rw [List.length_map]; omega)]
    · rw [if_pos rfl]
      exact v_bin (v_var rfl) (v_var rfl) (ix_scr (at_nat (by simp [hp])))
  · exact ⟨546, by rfl⟩
theorem math (ns : List Int) (hl : ns.length ≤ 63) : ∃ h', F_law [.scr (ns.map IV.int)] [] = .ok (.bl true) h' := by
  obtain ⟨m, h', e⟩ := lc_all (g := gmName 1) (t := eC (.bl true)) (e := eCall F_right (aCons (eCall F_pot (aCons (eVar 0) (aCons (eVar 1) aNil))) aNil)) (ρ := [some (.scr (ns.map IV.int)), none]) (rangeI 0 (max 1 (min 3 (ns.length : Int)))) 0 [] (by
      rw [rangeI_len]
      have : (max 1 (min 3 (ns.length : Int)) - 0).toNat ≤ 3 := by omega
      have : 3 ≤ sizeLine := by decide
      omega) (fun x hx h => by
      unfold rangeI at hx
      obtain ⟨p, hp, rfl⟩ := List.mem_map.mp hx
      rw [List.mem_range] at hp
      rw [Int.zero_add]
      have hp3 : p < 3 := by omega
      have hpl : p < ns.length ∨ (ns = [] ∧ p = 0) := by
        by_cases h0 : ns.length = 0
        · exact .inr ⟨List.eq_nil_of_length_eq_zero h0, by omega⟩
        · exact .inl (by omega)
      obtain ⟨c, hc⟩ := cell_of (h := h) hpl
      have ep := pot_val hp3 hc
      have hA : 0 ≤ ownI c := by
        unfold ownI
        refine Int.mul_nonneg (Int.emod_nonneg _ (by decide)) ?_
        split <;> decide
      obtain ⟨h2, er⟩ := right_val (n := h.length) (h := h ++ [potC (ownI c) (smallI c p) 0]) (cell_last h _) hA (Int.emod_nonneg _ (by decide)) (Int.emod_lt_of_pos _ (by decide))
      exact ⟨_, _, h2, rfl, rfl, v_call (v_cons (v_call (v_cons (v_var rfl) (v_cons (v_var rfl) v_nil)) ep) v_nil) er⟩)
  refine ⟨h', f_rt rfl (w_ret (v_call (v_cons (x := .lst (List.replicate m (.bl true))) (h1 := h') ?_ v_nil) all_true))⟩
  · have ec : wSeq (eCall F_cells (aCons (eVar 0) (aCons (eC (.int 3)) aNil))) [some (.scr (ns.map IV.int)), none] [] = .ok (rangeI 0 (max 1 (min 3 (ns.length : Int)))) [] := by
      unfold wSeq
      rw [v_call (v_cons (v_var rfl) (v_cons v_c v_nil)) (cells_val hl)]
      rfl
    show ResL.bind (wSeq (eCall F_cells (aCons (eVar 0) (aCons (eC (.int 3)) aNil))) [some (.scr (ns.map IV.int)), none] []) _ = _
    rw [ec]
    exact e
end Lw

set_option maxHeartbeats 0
/-! the head and the end of contraryrolls_k89_errors_keep_any_value, by mphead.py -/
namespace Lw
open PySem PySem.Spec PyProof.Rows L2 Mp
def d_pot : He.DefD := ⟨("_law_pot", none), "_law_pot", "_law_pot", defArgs (top 35), defBody (top 35), defScope (top 35), [], []⟩
def d_take : He.DefD := ⟨("_law_take", none), "_law_take", "_law_take", defArgs (top 36), defBody (top 36), defScope (top 36), [], []⟩
def d_of : He.DefD := ⟨("_law_of", none), "_law_of", "_law_of", defArgs (top 37), defBody (top 37), defScope (top 37), [], []⟩
def d_cells : He.DefD := ⟨("_law_cells", none), "_law_cells", "_law_cells", defArgs (top 38), defBody (top 38), defScope (top 38), [], []⟩
def d_odd : He.DefD := ⟨("_law_odd", none), "_law_odd", "_law_odd", defArgs (top 39), defBody (top 39), defScope (top 39), [], []⟩
def d_made_too : He.DefD := ⟨("_law_made_too", none), "_law_made_too", "_law_made_too", defArgs (top 41), defBody (top 41), defScope (top 41), [], []⟩
def d_made : He.DefD := ⟨("_law_made", none), "_law_made", "_law_made", defArgs (top 40), defBody (top 40), defScope (top 40), [], []⟩
def d_kinds_too : He.DefD := ⟨("_law_kinds_too", none), "_law_kinds_too", "_law_kinds_too", defArgs (top 43), defBody (top 43), defScope (top 43), [], []⟩
def d_kinds : He.DefD := ⟨("_law_kinds", none), "_law_kinds", "_law_kinds", defArgs (top 42), defBody (top 42), defScope (top 42), [], []⟩
def d_right : He.DefD := ⟨("_law_right", none), "_law_right", "_law_right", defArgs (top 44), defBody (top 44), defScope (top 44), [], []⟩
def d_law : He.DefD := ⟨("law", none), "law", "law", defArgs (top 45), defBody (top 45), defScope (top 45), [], []⟩
def fn : List He.DefD := [d_pot, d_take, d_of, d_cells, d_odd, d_made_too, d_made, d_kinds_too, d_kinds, d_right, d_law]
def fa0 : List He.Fa := [.glo "_law_pot", .glo "_law_take", .glo "_law_of", .glo "_law_cells", .glo "_law_odd", .glo "_law_made_too", .glo "_law_made", .glo "_law_kinds_too", .glo "_law_kinds", .glo "_law_right", .glo "law"]
def fa1 : List He.Fa := [.free "ValueError", .free "abs", .free "all", .free "enumerate", .free "int", .free "isinstance", .free "len", .free "list", .free "max", .free "min", .free "range", .free "repr", .free "sum", .free "super"]
def fa2 : List He.Fa := errs.map .glo
def fa : List He.Fa := fa0 ++ (fa1 ++ fa2)
def lo0 : List PySem.Str := ["RollError", "BadWeb", "BadNumber", "BadMarks", "BadArrows", "BadNames", "BadOrder", "BadReader", "BadRoll", "TooMany", "BadPairs", "TooGreat", "Lets", "NoWay", "HasWay", "BadSaying"]
def lo1 : List PySem.Str := ["NotClosed", "BadPlaces", "NotSo", "BadMaking", "NotLed", "BadName", "BadWord", "NotLone", "NoThing", "WrongKind", "Held", "BadDeed", "BadKind", "NothingToUndo", "NothingToRedo", "NoNote"]
def lo2 : List PySem.Str := ["BadDesk", "_law_pot", "_law_take", "_law_of", "_law_cells", "_law_odd", "_law_made", "_law_made_too", "_law_kinds", "_law_kinds_too", "_law_right"]
def lo : List PySem.Str := lo0 ++ lo1 ++ lo2
abbrev R : PySem.W.OpenRow := PySem.W.OpenLaw.row PySem.Challenge.rw_contraryrolls_k89_errors_keep_any_value
def rv : RootV := rootVal ⟨4, 17, 4, 21⟩ ⟨4, 23, 4, 28⟩ ⟨5, 8, 5, 13⟩ ⟨5, 8, 5, 15⟩ ⟨5, 8, 5, 24⟩ ⟨5, 25, 5, 30⟩ ⟨5, 8, 5, 31⟩ ⟨5, 8, 5, 31⟩ ⟨6, 8, 6, 12⟩ ⟨6, 8, 6, 18⟩ ⟨6, 21, 6, 26⟩ ⟨6, 8, 6, 26⟩
def chk (L : PySem.W.Frag) : Bool := errsB errs "RollError" PySem.Challenge.pw_contraryrolls_k89_errors_keep_any_value L
abbrev hk : PySem.W.Hook := hookM 4 fa fn chk rv
def ob (s : PySem.W.SharedT) : AlM := obsMG 4 fa fn chk (HandSHeadRun.getT s)
theorem ob_eq (s : PySem.W.SharedT) : ob s = hk.obs s.abs := obsMG_eq (rv := rv) (HandSHeadRun.getT_eq s)
theorem run (w : World) : HandSHeadRun.RunEq R (PySem.W.view R.prog [45]) hk ob 30000 lo w := by
  intro os
  kernel_rfl
theorem facts {w : World} {K : PySem.W.Frag} {h : Heap} {mg : Str → Option Value} {f : Addr} (X : K.In h) (G : h.Ns mainGlobals mg) (hfa : mg ("law" : Str) = some (.ref f)) (c : SaysM fa fn chk rv K) :
    ∃ fd : FuncData, (∀ (s : Shared) (v : Value), BindsTo s fd ⟨[v], []⟩ [("script", v)]) ∧ ∀ base : Heap, K.In base → base.Ns mainGlobals mg → FnG PySem.Challenge.pw_contraryrolls_k89_errors_keep_any_value w K mg base 7 f fd ["script"] (spF K F_law) := by
  have B : Bi mg := {
    n_ValueError := He.free_ok X G (c.d.fact 11 (f := .free "ValueError") rfl)
    n_abs := He.free_ok X G (c.d.fact 12 (f := .free "abs") rfl)
    n_all := He.free_ok X G (c.d.fact 13 (f := .free "all") rfl)
    n_enumerate := He.free_ok X G (c.d.fact 14 (f := .free "enumerate") rfl)
    n_int := He.free_ok X G (c.d.fact 15 (f := .free "int") rfl)
    n_isinstance := He.free_ok X G (c.d.fact 16 (f := .free "isinstance") rfl)
    n_len := He.free_ok X G (c.d.fact 17 (f := .free "len") rfl)
    n_list := He.free_ok X G (c.d.fact 18 (f := .free "list") rfl)
    n_max := He.free_ok X G (c.d.fact 19 (f := .free "max") rfl)
    n_min := He.free_ok X G (c.d.fact 20 (f := .free "min") rfl)
    n_range := He.free_ok X G (c.d.fact 21 (f := .free "range") rfl)
    n_repr := He.free_ok X G (c.d.fact 22 (f := .free "repr") rfl)
    n_sum := He.free_ok X G (c.d.fact 23 (f := .free "sum") rfl)
  }
  have ET : ErrsT PySem.Challenge.pw_contraryrolls_k89_errors_keep_any_value K mg errs "RollError" (He.ga K "RollError") (rootF K) (rootCc K) (rootCd K) := by
    refine errsT_of X G c.root (by decide) c.chk_ (He.free_ok X G (c.d.fact 24 (f := .free "super") rfl)) fun C hC => ?_
    have hm : He.Fa.glo C ∈ fa := List.mem_append_right _ (List.mem_append_right _ (List.mem_map.mpr ⟨C, mem_of_contains hC, rfl⟩))
    obtain ⟨i, hi⟩ := List.getElem?_of_mem hm
    exact c.d.fact i hi
  obtain ⟨fd_pot, D_pot⟩ := c.d.def_ 0 (d := d_pot) rfl
  obtain ⟨fd_take, D_take⟩ := c.d.def_ 1 (d := d_take) rfl
  obtain ⟨fd_of, D_of⟩ := c.d.def_ 2 (d := d_of) rfl
  obtain ⟨fd_cells, D_cells⟩ := c.d.def_ 3 (d := d_cells) rfl
  obtain ⟨fd_odd, D_odd⟩ := c.d.def_ 4 (d := d_odd) rfl
  obtain ⟨fd_made_too, D_made_too⟩ := c.d.def_ 5 (d := d_made_too) rfl
  obtain ⟨fd_made, D_made⟩ := c.d.def_ 6 (d := d_made) rfl
  obtain ⟨fd_kinds_too, D_kinds_too⟩ := c.d.def_ 7 (d := d_kinds_too) rfl
  obtain ⟨fd_kinds, D_kinds⟩ := c.d.def_ 8 (d := d_kinds) rfl
  obtain ⟨fd_right, D_right⟩ := c.d.def_ 9 (d := d_right) rfl
  obtain ⟨fd_law, D_law⟩ := c.d.def_ 10 (d := d_law) rfl
  have e := hfa.symm.trans (He.glo_ok X G (c.d.fact 10 (f := .glo "law") rfl))
  cases e
  refine ⟨fd_law, fun s v => FunD.bindsA (ps := ["script"]) D_law (fun _ _ _ _ _ _ us hl => match us, hl with | [_], _ => rfl) s [v] rfl, fun base _ _ => ?_⟩
  have C_pot : Callee PySem.Challenge.pw_contraryrolls_k89_errors_keep_any_value w K mg base "_law_pot" 2 ["script", "place"] F_pot := ⟨_, _, He.glo_ok X G (c.d.fact 0 (f := .glo "_law_pot") rfl), D_pot.kp, bd_pot D_pot, ok_pot B ET  D_pot⟩
  have C_take : Callee PySem.Challenge.pw_contraryrolls_k89_errors_keep_any_value w K mg base "_law_take" 2 ["pot", "upto"] F_take := ⟨_, _, He.glo_ok X G (c.d.fact 1 (f := .glo "_law_take") rfl), D_take.kp, bd_take D_take, ok_take B ET  D_take⟩
  have C_of : Callee PySem.Challenge.pw_contraryrolls_k89_errors_keep_any_value w K mg base "_law_of" 3 ["pot", "some"] F_of := ⟨_, _, He.glo_ok X G (c.d.fact 2 (f := .glo "_law_of") rfl), D_of.kp, bd_of D_of, ok_of B ET C_take D_of⟩
  have C_cells : Callee PySem.Challenge.pw_contraryrolls_k89_errors_keep_any_value w K mg base "_law_cells" 2 ["script", "most"] F_cells := ⟨_, _, He.glo_ok X G (c.d.fact 3 (f := .glo "_law_cells") rfl), D_cells.kp, bd_cells D_cells, ok_cells B ET  D_cells⟩
  have C_odd : Callee PySem.Challenge.pw_contraryrolls_k89_errors_keep_any_value w K mg base "_law_odd" 4 ["pot"] F_odd := ⟨_, _, He.glo_ok X G (c.d.fact 4 (f := .glo "_law_odd") rfl), D_odd.kp, bd_odd D_odd, ok_odd B ET C_of D_odd⟩
  have C_made_too : Callee PySem.Challenge.pw_contraryrolls_k89_errors_keep_any_value w K mg base "_law_made_too" 4 ["value"] F_made_too := ⟨_, _, He.glo_ok X G (c.d.fact 5 (f := .glo "_law_made_too") rfl), D_made_too.kp, bd_made_too D_made_too, ok_made_too B ET  D_made_too⟩
  have C_made : Callee PySem.Challenge.pw_contraryrolls_k89_errors_keep_any_value w K mg base "_law_made" 5 ["value"] F_made := ⟨_, _, He.glo_ok X G (c.d.fact 6 (f := .glo "_law_made") rfl), D_made.kp, bd_made D_made, ok_made B ET C_made_too D_made⟩
  have C_kinds_too : Callee PySem.Challenge.pw_contraryrolls_k89_errors_keep_any_value w K mg base "_law_kinds_too" 2 ["error"] F_kinds_too := ⟨_, _, He.glo_ok X G (c.d.fact 7 (f := .glo "_law_kinds_too") rfl), D_kinds_too.kp, bd_kinds_too D_kinds_too, ok_kinds_too B ET  D_kinds_too⟩
  have C_kinds : Callee PySem.Challenge.pw_contraryrolls_k89_errors_keep_any_value w K mg base "_law_kinds" 3 ["error"] F_kinds := ⟨_, _, He.glo_ok X G (c.d.fact 8 (f := .glo "_law_kinds") rfl), D_kinds.kp, bd_kinds D_kinds, ok_kinds B ET C_kinds_too D_kinds⟩
  have C_right : Callee PySem.Challenge.pw_contraryrolls_k89_errors_keep_any_value w K mg base "_law_right" 6 ["pot"] F_right := ⟨_, _, He.glo_ok X G (c.d.fact 9 (f := .glo "_law_right") rfl), D_right.kp, bd_right D_right, ok_right B ET C_odd C_made C_kinds D_right⟩
  exact ok_law B ET C_cells C_right C_pot D_law
theorem holds (math : ∀ ns : List Int, ns.length ≤ 63 → ∃ h', F_law [.scr (ns.map IV.int)] [] = .ok (.bl true) h') : (PySem.W.OpenLaw.row PySem.Challenge.rw_contraryrolls_k89_errors_keep_any_value).Holds := by
  refine HandSHeadRun.head_any (r := R) (q := PySem.W.view R.prog [45]) (H := hk) (ob := ob) (M := 30000) (loose := lo) (d := HandSHeadRun.topDef R.prog 45) (kwd := []) ob_eq
    (by kernel_rfl) (fun s => by kernel_rfl) run (by kernel_rfl) (by kernel_rfl) (by kernel_rfl) (by rfl) (by first | assumption | decide +kernel) (by decide +kernel) ⟨rfl, rfl, rfl, rfl, rfl, by decide +kernel⟩ ?hw ?hc
  case hw => w_witness2
  case hc =>
    refine law_end (l := PySem.Challenge.rw_contraryrolls_k89_errors_keep_any_value) (n := 63) (k := 7) (x := "script") (F := F_law) rfl (by decide) (by kernel_rfl) ⟨⟨rfl, by decide, by decide⟩, rfl⟩ ?_ math
    intro w mg fa h Y G hmg0
    obtain ⟨K, KX, c⟩ := Y
    have hmg : mg ("law" : PySem.Str) = some (.ref fa) := by
      have e : (HandSHeadRun.topDef R.prog 45).name = ("law" : PySem.Str) := by kernel_rfl
      rw [← e]
      exact hmg0
    obtain ⟨fd, hb, hF⟩ := facts (w := w) KX G hmg c
    exact ⟨K, fd, KX, hb, hF⟩
end Lw

theorem PySem.Challenge.cw_contraryrolls_k89_errors_keep_any_value_holds : PySem.Challenge.rw_contraryrolls_k89_errors_keep_any_value.Holds := by
  w_on; o_law
  exact Lw.holds Lw.math
