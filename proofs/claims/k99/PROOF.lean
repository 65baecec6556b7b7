import PyProof.Rows.All
import Wide.All
import OpenK.AllK
import Wide.FinOn
import HandS.ForMost
import HandS.ForExc
import HandS.WrittenGet
import HandS.IsInst
import HandS.Sort
import HandS.Strs
import HandS.Zip
import HandS.TupAny
import HandS.SetBool
import HandS.Wide
import HandS.Evl
import HandS.Conv
import PySem.Challenge.RW_letstand_k99_planned_roads_judged
import HandS.ExcInit
import HandS.ExcOwn
import HandS.WordsExc
import HandS.TryOnly
set_option Elab.async false
set_option linter.all false
set_option maxRecDepth 100000
set_option maxHeartbeats 4000000
/-! GL: a second layer over the readings: data by value (PyData), objects that a def owns by number, no addresses in sight. -/
namespace GL
open PySem PySem.Spec PyProof.Rows L2

/-- the library's own: what stands in H stands in H' -/
abbrev Ex (H H' : Hp) : Prop := Evl.Ex H H'
theorem Ex.rfl' (H : Hp) : Ex H H := Evl.Ex.refl H
theorem Ex.tr {H1 H2 H3 : Hp} (a : Ex H1 H2) (b : Ex H2 H3) : Ex H1 H3 := Evl.Ex.trans a b
theorem Ex.nn {H H' : Hp} (e : Ex H H') {a : Addr} (h : H a ≠ none) : H' a ≠ none := by
  cases q : H a with
  | none => exact absurd q h
  | some o => rw [e a o q]; exact fun z => by cases z
theorem Ex.new {H : Hp} {p : Addr} {o : HO} (h : H p = none) : Ex H (upd H p o) := Evl.Ex.new h

/-! ### data that stands in a heap -/
mutual
inductive Rp (H : Hp) : V → PyData → Prop
  | non : Rp H .non .none
  | bl (b : Bool) : Rp H (.bl b) (.bool b)
  | int (i : Int) : Rp H (.int i) (.int i)
  | str (x : Str) : Rp H (.str x) (.str x)
  | lst {a : Addr} {xs : List V} {ds : List PyData} : H a = some (.lst xs) → RpA H xs ds → Rp H (.ref a) (.list ds)
  | tup {a : Addr} {xs : List V} {ds : List PyData} : H a = some (.tup xs) → RpA H xs ds → Rp H (.ref a) (.tuple ds)
inductive RpA (H : Hp) : List V → List PyData → Prop
  | nil : RpA H [] []
  | cons {v : V} {vs : List V} {d : PyData} {ds : List PyData} : Rp H v d → RpA H vs ds → RpA H (v :: vs) (d :: ds)
end
mutual
theorem Rp.mono {H H' : Hp} (e : Ex H H') : ∀ {v : V} {d : PyData}, Rp H v d → Rp H' v d
  | _, _, .non => .non
  | _, _, .bl b => .bl b
  | _, _, .int i => .int i
  | _, _, .str x => .str x
  | _, _, .lst h r => .lst (e _ _ h) (RpA.mono e r)
  | _, _, .tup h r => .tup (e _ _ h) (RpA.mono e r)
theorem RpA.mono {H H' : Hp} (e : Ex H H') : ∀ {vs : List V} {ds : List PyData}, RpA H vs ds → RpA H' vs ds
  | _, _, .nil => .nil
  | _, _, .cons h r => .cons (Rp.mono e h) (RpA.mono e r)
end
mutual
theorem Rp.dp {K : PySem.W.Frag} {H : Hp} : ∀ {v : V} {d : PyData}, Rp H v d → Dp K H v d
  | _, _, .non => .non
  | _, _, .bl b => .bl b
  | _, _, .int i => .int i
  | _, _, .str x => .str x
  | _, _, .lst h r => .lst (SqL.of h) (RpA.dp r)
  | _, _, .tup h r => .tup (SqT.of h) (RpA.dp r)
theorem RpA.dp {K : PySem.W.Frag} {H : Hp} : ∀ {vs : List V} {ds : List PyData}, RpA H vs ds → DpAll K H vs ds
  | _, _, .nil => .nil
  | _, _, .cons h r => .cons (Rp.dp h) (RpA.dp r)
end
section
variable {H : Hp}
theorem RpA.len : ∀ {vs : List V} {ds : List PyData}, RpA H vs ds → vs.length = ds.length
  | _, _, .nil => rfl
  | _, _, .cons _ r => congrArg (· + 1) (RpA.len r)
theorem RpA.get : ∀ {vs : List V} {ds : List PyData} {i : Nat} {d : PyData}, RpA H vs ds → ds[i]? = some d → ∃ v, vs[i]? = some v ∧ Rp H v d
  | _, _, _, _, .nil, e => by simp at e
  | _, _, 0, _, .cons h _, e => by simp at e; subst e; exact ⟨_, rfl, h⟩
  | _, _, i + 1, d, .cons _ r, e => by
    obtain ⟨v, h1, h2⟩ := RpA.get (i := i) (d := d) r (by simpa using e)
    exact ⟨v, by simpa using h1, h2⟩
theorem RpA.got {vs : List V} {ds : List PyData} {i : Nat} {v : V} (r : RpA H vs ds) (e : vs[i]? = some v) : ∃ d, ds[i]? = some d ∧ Rp H v d := by
  have hi : i < ds.length := by
    have := (List.getElem?_eq_some_iff.mp e).1
    rw [r.len] at this; exact this
  obtain ⟨u, h1, h2⟩ := r.get (List.getElem?_eq_getElem hi)
  rw [e] at h1
  cases h1
  exact ⟨_, List.getElem?_eq_getElem hi, h2⟩
theorem RpA.app : ∀ {vs us : List V} {ds es : List PyData}, RpA H vs ds → RpA H us es → RpA H (vs ++ us) (ds ++ es)
  | _, _, _, _, .nil, s => s
  | _, _, _, _, .cons h r, s => .cons h (RpA.app r s)
theorem RpA.tk : ∀ {vs : List V} {ds : List PyData} (n : Nat), RpA H vs ds → RpA H (vs.take n) (ds.take n)
  | _, _, 0, _ => .nil
  | _, _, _ + 1, .nil => .nil
  | _, _, n + 1, .cons h r => .cons h (RpA.tk n r)
theorem RpA.dr : ∀ {vs : List V} {ds : List PyData} (n : Nat), RpA H vs ds → RpA H (vs.drop n) (ds.drop n)
  | _, _, 0, r => r
  | _, _, _ + 1, .nil => .nil
  | _, _, n + 1, .cons _ r => RpA.dr n r
theorem RpA.st {v : V} {d : PyData} (hv : Rp H v d) : ∀ {vs : List V} {ds : List PyData} (n : Nat), RpA H vs ds → RpA H (vs.set n v) (ds.set n d)
  | _, _, _, .nil => .nil
  | _, _, 0, .cons _ r => .cons hv r
  | _, _, n + 1, .cons h r => .cons h (RpA.st hv n r)
theorem RpA.er : ∀ {vs : List V} {ds : List PyData} (n : Nat), RpA H vs ds → RpA H (vs.eraseIdx n) (ds.eraseIdx n)
  | _, _, _, .nil => .nil
  | _, _, 0, .cons _ r => r
  | _, _, n + 1, .cons h r => .cons h (RpA.er n r)
theorem RpA.ints : ∀ {vs : List V} {ns : List Int}, RpA H vs (ns.map .int) → vs = ns.map V.int
  | _, [], .nil => rfl
  | _, n :: ns, .cons h r => by
    cases h
    rw [RpA.ints r] <;> rfl
theorem RpA.bools : ∀ {vs : List V} {ns : List Bool}, RpA H vs (ns.map .bool) → vs = ns.map V.bl
  | _, [], .nil => rfl
  | _, n :: ns, .cons h r => by
    cases h
    rw [RpA.bools r] <;> rfl
theorem RpA.ofInts : ∀ (ns : List Int), RpA H (ns.map V.int) (ns.map .int)
  | [] => .nil
  | n :: ns => .cons (.int n) (RpA.ofInts ns)
/-- a permuted list of values is one of data permuted alike -/
theorem RpA.perm {vs us : List V} (p : us.Perm vs) : ∀ {ds : List PyData}, RpA H vs ds → ∃ es, es.Perm ds ∧ RpA H us es := by
  induction p with
  | nil => intro ds r; exact ⟨ds, .refl _, r⟩
  | cons x _ ih =>
    intro ds r
    cases r with
    | cons h r =>
      obtain ⟨es, p1, r1⟩ := ih r
      exact ⟨_ :: es, p1.cons _, .cons h r1⟩
  | swap x y l =>
    intro ds r
    cases r with
    | cons h r =>
      cases r with
      | cons h2 r2 => exact ⟨_, .swap _ _ _, .cons h2 (.cons h r2)⟩
  | trans _ _ i1 i2 =>
    intro ds r
    obtain ⟨es, p1, r1⟩ := i2 r
    obtain ⟨fs, p2, r2⟩ := i1 r1
    exact ⟨fs, p2.trans p1, r2⟩
end

/-! ### what a def knows: slots and objects -/
inductive D where
  | dat (d : PyData)
  | ref (k : Nat)
/-- an object: a list or dict of the def's own, a list that is only read here, the drawing source, one that is given away -/
inductive MO where
  | lst (ds : List PyData) | dct (f : Key → Option PyData) (n : Nat) | bor (ds : List PyData) | src | sro (a b c : Int) | dead
def owned : MO → Bool
  | .lst _ => true | .dct _ _ => true | .src => true | .sro _ _ _ => true | _ => false
def vola : MO → Bool
  | .src => true | .sro _ _ _ => true | _ => false
def RO (B : Hp) : Option V → Option PyData → Prop
  | none, none => True
  | some v, some d => Rp B v d
  | _, _ => False
theorem RO.mono {B B' : Hp} (e : Ex B B') {v : Option V} {d : Option PyData} (h : RO B v d) : RO B' v d := by
  cases v <;> cases d <;> first | exact h | exact Rp.mono e h
def MOk (H B : Hp) (p : Addr) : MO → Prop
  | .lst ds => ∃ xs, H p = some (.lst xs) ∧ RpA B xs ds
  | .dct f n => ∃ kvs, H p = some (.dK kvs) ∧ kvs.length ≤ n ∧ ∀ k, RO B (valV kvs k) (f k)
  | .bor ds => ∃ xs, Rd H p (.lst xs) ∧ RpA B xs ds
  | .src => ∃ a b c : Int, H p = some (.lst [.int a, .int b, .int c])
  | .sro a b c => H p = some (.lst [.int a, .int b, .int c])
  | .dead => True
theorem MOk.go {H H' B B' : Hp} {p : Addr} {m : MO} (h : MOk H B p m) (e : Ex B B') (k : ∀ o, H p = some o → H' p = some o) : MOk H' B' p m := by
  cases m with
  | lst ds => obtain ⟨xs, h1, h2⟩ := h; exact ⟨xs, k _ h1, h2.mono e⟩
  | dct f n => obtain ⟨kvs, h1, h2, h3⟩ := h; exact ⟨kvs, k _ h1, h2, fun j => (h3 j).mono e⟩
  | bor ds => obtain ⟨xs, h1, h2⟩ := h; exact ⟨xs, h1.imp (k _) fun ⟨o, z⟩ => ⟨o, k _ z⟩, h2.mono e⟩
  | src => obtain ⟨a, b, c, h1⟩ := h; exact ⟨a, b, c, k _ h1⟩
  | sro a b c => exact k _ h
  | dead => trivial
def VD (B : Hp) (ps : List Addr) (v : V) : D → Prop
  | .dat d => Rp B v d
  | .ref k => ∃ p, ps[k]? = some p ∧ v = .ref p
structure Gro (B B' : Hp) (ps ps' : List Addr) : Prop where
  ex : Ex B B'
  pre : ∀ (k : Nat) p, ps[k]? = some p → ps'[k]? = some p
theorem Gro.rf (B : Hp) (ps : List Addr) : Gro B B ps ps := ⟨Ex.rfl' B, fun _ _ h => h⟩
theorem Gro.tr {B1 B2 B3 : Hp} {p1 p2 p3 : List Addr} (a : Gro B1 B2 p1 p2) (b : Gro B2 B3 p2 p3) : Gro B1 B3 p1 p3 := ⟨a.ex.tr b.ex, fun k p h => b.pre k p (a.pre k p h)⟩
theorem VD.go {B B' : Hp} {ps ps' : List Addr} (g : Gro B B' ps ps') {v : V} {d : D} (h : VD B ps v d) : VD B' ps' v d := by
  cases d with
  | dat d => exact Rp.mono g.ex h
  | ref k => obtain ⟨p, h1, h2⟩ := h; exact ⟨p, g.pre k p h1, h2⟩
structure Frm where
  H0 : Hp
  B0 : Hp
  S : Addr → Prop
abbrev Sl := List (Option D)
structure Env (F : Frm) (σ : L2.St) (H : Hp) (Γ : Sl) (M : List MO) (B : Hp) (ps : List Addr) : Prop where
  ex : Ex B H
  b0 : Ex F.B0 B
  bn : ∀ a, F.H0 a ≠ none → F.B0 a = none → B a = none
  fr : ∀ a o, F.H0 a = some o → ¬ F.S a → H a = some o
  vl : ∀ a, F.S a → H a ≠ none
  len : ps.length = M.length
  al : ∀ (k : Nat) p, ps[k]? = some p → H p ≠ none
  mo : ∀ (k : Nat) p m, ps[k]? = some p → M[k]? = some m → MOk H B p m
  own : ∀ (k : Nat) p m, ps[k]? = some p → M[k]? = some m → owned m = true → B p = none ∧ (F.H0 p = none ∨ (F.S p ∧ vola m = true)) ∧ ∀ (j : Nat), ps[j]? = some p → j = k
  sz : Γ.length = σ.length
  sl : ∀ (i : Nat) d, Γ[i]? = some (some d) → ∃ v, σ[i]? = some (some v) ∧ VD B ps v d
section
variable {F : Frm} {σ σ' : L2.St} {H H' : Hp} {Γ Γ' : Sl} {M M' : List MO} {B B' : Hp} {ps ps' : List Addr}
theorem Env.fresh0 (e : Env F σ H Γ M B ps) {p : Addr} (h : H p = none) : F.H0 p = none := by
  cases q : F.H0 p with
  | none => rfl
  | some o =>
    by_cases s : F.S p
    · exact absurd h (e.vl p s)
    · rw [e.fr p o q s] at h; cases h
theorem Env.freshB (e : Env F σ H Γ M B ps) {p : Addr} (h : H p = none) : B p = none := by
  cases q : B p with
  | none => rfl
  | some o => rw [e.ex p o q] at h; cases h
theorem Env.mem (e : Env F σ H Γ M B ps) {k : Nat} {m : MO} (h : M[k]? = some m) : ∃ p, ps[k]? = some p := by
  have hk := (List.getElem?_eq_some_iff.mp h).1
  rw [← e.len] at hk
  exact ⟨_, List.getElem?_eq_getElem hk⟩
theorem Env.slots (e : Env F σ H Γ M B ps) (hz : Γ'.length = σ'.length) (hs : ∀ (i : Nat) d, Γ'[i]? = some (some d) → ∃ v, σ'[i]? = some (some v) ∧ VD B ps v d) : Env F σ' H Γ' M B ps :=
  ⟨e.ex, e.b0, e.bn, e.fr, e.vl, e.len, e.al, e.mo, e.own, hz, hs⟩
theorem Env.set (e : Env F σ H Γ M B ps) {i : Nat} {v : V} {d : D} (h : VD B ps v d) : Env F (σ.set i (some v)) H (Γ.set i (some d)) M B ps := by
  refine e.slots (by rw [List.length_set, List.length_set, e.sz]) fun j x hx => ?_
  by_cases hj : i = j
  · subst hj
    have hl : i < Γ.length := by
      have := (List.getElem?_eq_some_iff.mp hx).1
      rw [List.length_set] at this; exact this
    rw [List.getElem?_set_self hl] at hx
    cases hx
    rw [List.getElem?_set_self (by rw [← e.sz]; exact hl)]
    exact ⟨v, rfl, h⟩
  · rw [List.getElem?_set_ne hj] at hx
    rw [List.getElem?_set_ne hj]
    exact e.sl j x hx
/-- the heap grows, the source may turn -/
theorem Env.step (e : Env F σ H Γ M B ps) (hb : Ex B B') (hx : Ex B' H') (hn : ∀ a, B' a ≠ none → B a ≠ none ∨ H a = none)
    (hh : ∀ a o, H a = some o → (∀ k : Nat, ps[k]? = some a → M[k]? ≠ some .src) → H' a = some o)
    (hs : ∀ (k : Nat) p, ps[k]? = some p → M[k]? = some .src → ∃ a b c : Int, H' p = some (.lst [.int a, .int b, .int c])) : Env F σ H' Γ M B' ps := by
  have nn : ∀ a, H a ≠ none → H' a ≠ none := fun a h => by
    by_cases z : ∀ k : Nat, ps[k]? = some a → M[k]? ≠ some .src
    · cases q : H a with
      | none => exact absurd q h
      | some o => rw [hh a o q z]; exact fun z => by cases z
    · simp only [Classical.not_forall, Classical.not_not] at z
      obtain ⟨k, h1, h2⟩ := z
      obtain ⟨x, y, w, h3⟩ := hs k a h1 h2
      rw [h3]; exact fun z => by cases z
  refine ⟨hx, e.b0.tr hb, fun a h1 h2 => ?_, fun a o h1 h2 => ?_, fun a h => nn a (e.vl a h), e.len, fun k p h => nn p (e.al k p h), fun k p m h1 h2 => ?_, fun k p m h1 h2 h3 => ?_, e.sz, fun i d h => ?_⟩
  · cases q : B' a with
    | none => rfl
    | some o =>
      rcases hn a (by rw [q]; exact fun z => by cases z) with z | z
      · exact absurd (e.bn a h1 h2) z
      · exact absurd (e.fresh0 z) h1
  · refine hh a o (e.fr a o h1 h2) fun k k1 k2 => ?_
    obtain ⟨_, z, _⟩ := e.own k a _ k1 k2 rfl
    rcases z with z | z
    · rw [z] at h1; cases h1
    · exact h2 z.1
  · by_cases hm : m = .src
    · subst hm
      exact hs k p h1 h2
    · refine (e.mo k p m h1 h2).go hb fun o ho => hh p o ho fun j j1 j2 => ?_
      obtain ⟨_, _, u⟩ := e.own j p _ j1 j2 rfl
      have := u k h1
      subst this
      rw [h2] at j2
      cases j2
      exact hm rfl
  · obtain ⟨z1, z2, z3⟩ := e.own k p m h1 h2 h3
    refine ⟨?_, z2, z3⟩
    cases q : B' p with
    | none => rfl
    | some o =>
      rcases hn p (by rw [q]; exact fun z => by cases z) with z | z
      · exact absurd z1 z
      · exact absurd z (e.al k p h1)
  · obtain ⟨v, h1, h2⟩ := e.sl i d h
    exact ⟨v, h1, h2.go ⟨hb, fun _ _ h => h⟩⟩
/-- nothing but new objects -/
theorem Env.grow (e : Env F σ H Γ M B ps) (hb : Ex B B') (hx : Ex B' H') (hn : ∀ a, B' a ≠ none → B a ≠ none ∨ H a = none) (hh : Ex H H') : Env F σ H' Γ M B' ps :=
  e.step hb hx hn (fun a o h _ => hh a o h) fun k p h1 h2 => by
    obtain ⟨a, b, c, h⟩ := e.mo k p _ h1 h2
    exact ⟨a, b, c, hh _ _ h⟩
theorem upd_nn {B : Hp} {p a : Addr} {o : HO} (h : upd B p o a ≠ none) : B a ≠ none ∨ a = p := by
  by_cases z : a = p
  · exact .inr z
  · rw [upd_ne z] at h; exact .inl h
theorem Ex.upd2 {B H : Hp} {p : Addr} {o : HO} (e : Ex B H) : Ex (upd B p o) (upd H p o) := fun a u h => by
  by_cases z : a = p
  · subst z; rw [upd_same] at h ⊢; exact h
  · rw [upd_ne z] at h ⊢; exact e a u h
/-- a new tuple, that is data from now on -/
theorem Env.newT (e : Env F σ H Γ M B ps) {p : Addr} {o : HO} (h : H p = none) : Env F σ (upd H p o) Γ M (upd B p o) ps ∧ Gro B (upd B p o) ps ps :=
  have hB := e.freshB h
  ⟨e.grow (Ex.new hB) e.ex.upd2 (fun a z => (upd_nn z).imp id fun q => by rw [q]; exact h) (Ex.new h), ⟨Ex.new hB, fun _ _ h => h⟩⟩
/-- an object that stands there is taken up -/
theorem Env.attach (e : Env F σ H Γ M B ps) {p : Addr} {m : MO} (hp : H p ≠ none) (hB : B p = none) (h0 : F.H0 p = none) (np : ∀ (k : Nat), ps[k]? ≠ some p) (hm : MOk H B p m) : Env F σ H Γ (M ++ [m]) B (ps ++ [p]) := by
  have g : Gro B B ps (ps ++ [p]) := ⟨Ex.rfl' B, fun k q hk => by
    rw [List.getElem?_append_left (List.getElem?_eq_some_iff.mp hk).1]; exact hk⟩
  have at_ : ∀ (k : Nat) q, (ps ++ [p])[k]? = some q → ps[k]? = some q ∨ (k = ps.length ∧ q = p) := fun k q hk => by
    by_cases z : k < ps.length
    · rw [List.getElem?_append_left z] at hk; exact .inl hk
    · have hl := (List.getElem?_eq_some_iff.mp hk).1
      rw [List.length_append, List.length_singleton] at hl
      have : k = ps.length := by omega
      subst this
      rw [List.getElem?_append_right (Nat.le_refl _), Nat.sub_self] at hk
      exact .inr ⟨rfl, (Option.some.inj hk).symm⟩
  have atM : ∀ (k : Nat) m', k < M.length → (M ++ [m])[k]? = some m' → M[k]? = some m' := fun k m' z hk => by
    rw [List.getElem?_append_left z] at hk; exact hk
  refine ⟨e.ex, e.b0, e.bn, e.fr, e.vl, by rw [List.length_append, List.length_append, e.len] <;> rfl, fun k q hk => ?_, fun k q m' h1 h2 => ?_, fun k q m' h1 h2 h3 => ?_, e.sz, fun i d hd => ?_⟩
  · rcases at_ k q hk with z | ⟨_, z⟩
    · exact e.al k q z
    · subst z; exact hp
  · rcases at_ k q h1 with z | ⟨z1, z⟩
    · have hl := (List.getElem?_eq_some_iff.mp z).1
      rw [e.len] at hl
      exact e.mo k q m' z (atM k m' hl h2)
    · subst z1; subst z
      rw [e.len, List.getElem?_append_right (Nat.le_refl _), Nat.sub_self] at h2
      cases (Option.some.inj h2)
      exact hm
  · rcases at_ k q h1 with z | ⟨z1, z⟩
    · have hl := (List.getElem?_eq_some_iff.mp z).1
      rw [e.len] at hl
      obtain ⟨y1, y2, y3⟩ := e.own k q m' z (atM k m' hl h2) h3
      refine ⟨y1, y2, fun j hj => ?_⟩
      rcases at_ j q hj with w | ⟨_, w⟩
      · exact y3 j w
      · subst w; exact absurd z (np k)
    · subst z1; subst z
      refine ⟨hB, .inl h0, fun j hj => ?_⟩
      rcases at_ j q hj with w | ⟨w, _⟩
      · exact absurd w (np j)
      · exact w
  · obtain ⟨v, h1, h2⟩ := e.sl i d hd
    exact ⟨v, h1, h2.go g⟩
theorem Gro.app (B : Hp) (ps : List Addr) (p : Addr) : Gro B B ps (ps ++ [p]) := ⟨Ex.rfl' B, fun k q hk => by
  rw [List.getElem?_append_left (List.getElem?_eq_some_iff.mp hk).1]; exact hk⟩
/-- a new object -/
theorem Env.push (e : Env F σ H Γ M B ps) {p : Addr} {m : MO} {o : HO} (h : H p = none) (hm : MOk (upd H p o) B p m) :
    Env F σ (upd H p o) Γ (M ++ [m]) B (ps ++ [p]) ∧ Gro B B ps (ps ++ [p]) :=
  have hB := e.freshB h
  have e1 : Env F σ (upd H p o) Γ M B ps := e.grow (Ex.rfl' B) (e.ex.tr (Ex.new h)) (fun a z => .inl z) (Ex.new h)
  ⟨e1.attach (by rw [upd_same]; exact fun z => by cases z) hB (e.fresh0 h) (fun k hk => e.al k p hk h) hm, Gro.app B ps p⟩
/-- an own object changes -/
theorem Env.put (e : Env F σ H Γ M B ps) {k : Nat} {p : Addr} {m m' : MO} {o : HO} (hp : ps[k]? = some p) (hk : M[k]? = some m) (ho : owned m = true) (hm : MOk (upd H p o) B p m') (hv : vola m' = vola m ∨ owned m' = false) :
    Env F σ (upd H p o) Γ (M.set k m') B ps := by
  obtain ⟨y1, y2, y3⟩ := e.own k p m hp hk ho
  have hl : k < M.length := (List.getElem?_eq_some_iff.mp hk).1
  have ne : ∀ (j : Nat) q, ps[j]? = some q → j ≠ k → q ≠ p := fun j q hj hn z => by subst z; exact hn (y3 j hj)
  refine ⟨fun a u h => ?_, e.b0, e.bn, fun a u h1 h2 => ?_, fun a h => ?_, by rw [List.length_set]; exact e.len, fun j q h => ?_, fun j q x h1 h2 => ?_, fun j q x h1 h2 h3 => ?_, e.sz, e.sl⟩
  · rw [upd_ne (fun z => by subst z; rw [y1] at h; cases h)]; exact e.ex a u h
  · rw [upd_ne (fun z => by
      subst z
      rcases y2 with y2 | y2
      · rw [y2] at h1; cases h1
      · exact h2 y2.1)]
    exact e.fr a u h1 h2
  · by_cases z : a = p
    · subst z; rw [upd_same]; exact fun z => by cases z
    · rw [upd_ne z]; exact e.vl a h
  · by_cases z : q = p
    · subst z; rw [upd_same]; exact fun z => by cases z
    · rw [upd_ne z]; exact e.al j q h
  · by_cases z : j = k
    · subst z
      rw [hp] at h1; cases h1
      rw [List.getElem?_set_self hl] at h2
      cases h2
      exact hm
    · rw [List.getElem?_set_ne (Ne.symm z)] at h2
      exact (e.mo j q x h1 h2).go (Ex.rfl' B) fun u hu => by rw [upd_ne (ne j q h1 z)]; exact hu
  · by_cases z : j = k
    · subst z
      rw [hp] at h1; cases h1
      rw [List.getElem?_set_self hl] at h2
      cases h2
      refine ⟨y1, ?_, y3⟩
      rcases hv with hv | hv
      · rw [hv]; exact y2
      · rw [hv] at h3; cases h3
    · rw [List.getElem?_set_ne (Ne.symm z)] at h2
      exact e.own j q x h1 h2 h3
def fzD (k : Nat) (d : PyData) : Option D → Option D
  | some (.ref j) => if j = k then some (.dat d) else some (.ref j)
  | x => x
/-- an own list is data from now on -/
theorem Env.freeze (e : Env F σ H Γ M B ps) {k : Nat} {ds : List PyData} {p : Addr} (hp : ps[k]? = some p) (hk : M[k]? = some (.lst ds)) :
    ∃ B', Env F σ H (Γ.map (fzD k (.list ds))) (M.set k .dead) B' ps ∧ Gro B B' ps ps ∧ Rp B' (.ref p) (.list ds) := by
  obtain ⟨xs, hx, hr⟩ := e.mo k p _ hp hk
  obtain ⟨y1, y2, y3⟩ := e.own k p _ hp hk rfl
  have y2 : F.H0 p = none := by
    rcases y2 with z | z
    · exact z
    · cases z.2
  have hl : k < M.length := (List.getElem?_eq_some_iff.mp hk).1
  have g : Gro B (upd B p (.lst xs)) ps ps := ⟨Ex.new y1, fun _ _ h => h⟩
  have hR : Rp (upd B p (.lst xs)) (.ref p) (.list ds) := .lst upd_same (hr.mono g.ex)
  refine ⟨upd B p (.lst xs), ⟨fun a u h => ?_, e.b0.tr g.ex, fun a h1 h2 => ?_, e.fr, e.vl, by rw [List.length_set]; exact e.len, e.al, fun j q x h1 h2 => ?_, fun j q x h1 h2 h3 => ?_, by rw [List.length_map]; exact e.sz, fun i d h => ?_⟩, g, hR⟩
  · by_cases z : a = p
    · subst z; rw [upd_same] at h; rw [← h]; exact hx
    · rw [upd_ne z] at h; exact e.ex a u h
  · rw [upd_ne (fun z => by subst z; exact h1 y2)]; exact e.bn a h1 h2
  · by_cases z : j = k
    · subst z
      rw [List.getElem?_set_self hl] at h2
      cases h2
      trivial
    · rw [List.getElem?_set_ne (Ne.symm z)] at h2
      exact (e.mo j q x h1 h2).go g.ex fun _ h => h
  · by_cases z : j = k
    · subst z
      rw [List.getElem?_set_self hl] at h2
      cases h2
      cases h3
    · rw [List.getElem?_set_ne (Ne.symm z)] at h2
      obtain ⟨w1, w2, w3⟩ := e.own j q x h1 h2 h3
      refine ⟨?_, w2, w3⟩
      rw [upd_ne (fun z' => by subst z'; exact z (w3 k hp).symm)]
      exact w1
  · rw [List.getElem?_map] at h
    cases q : Γ[i]? with
    | none => rw [q] at h; cases h
    | some od =>
      rw [q] at h
      have h : fzD k (.list ds) od = some d := Option.some.inj h
      cases od with
      | none => cases h
      | some d0 =>
        obtain ⟨v, h1, h2⟩ := e.sl i d0 q
        refine ⟨v, h1, ?_⟩
        cases d0 with
        | dat x => cases h; exact h2.go g
        | ref j =>
          by_cases z : j = k
          · subst z
            have h : (if j = j then some (D.dat (.list ds)) else some (.ref j)) = some d := h
            rw [if_pos rfl] at h
            cases h
            obtain ⟨p', w1, w2⟩ := h2
            rw [hp] at w1; cases w1
            subst w2
            exact hR
          · have h : (if j = k then some (D.dat (.list ds)) else some (.ref j)) = some d := h
            rw [if_neg z] at h
            cases h
            exact h2.go g
/-- the objects that came behind are let go, the slots as they were -/
theorem Env.restore (e : Env F σ H Γ M B ps) (e' : Env F σ' H' Γ' M' B' ps') (g : Gro B B' ps ps') (hM : ∀ (k : Nat) m, M[k]? = some m → M'[k]? = some m) : Env F σ H' Γ M B' ps := by
  have back : ∀ (k : Nat) p m, ps[k]? = some p → M[k]? = some m → ps'[k]? = some p ∧ M'[k]? = some m := fun k p m h1 h2 => ⟨g.pre k p h1, hM k m h2⟩
  refine ⟨e'.ex, e'.b0, e'.bn, e'.fr, e'.vl, e.len, fun k p h => e'.al k p (g.pre k p h), fun k p m h1 h2 => ?_, fun k p m h1 h2 h3 => ?_, e.sz, fun i d h => ?_⟩
  · exact e'.mo k p m (g.pre k p h1) (hM k m h2)
  · obtain ⟨w1, w2, w3⟩ := e'.own k p m (g.pre k p h1) (hM k m h2) h3
    exact ⟨w1, w2, fun j hj => w3 j (g.pre j p hj)⟩
  · obtain ⟨v, h1, h2⟩ := e.sl i d h
    exact ⟨v, h1, h2.go ⟨g.ex, fun _ _ h => h⟩⟩
/-- the frame of one part: what stands now, less the own objects -/
noncomputable def inner (F : Frm) (H B : Hp) (M : List MO) (ps : List Addr) : Frm :=
  ⟨fun a => open Classical in if (∃ (k : Nat) (m : MO), ps[k]? = some a ∧ M[k]? = some m ∧ owned m = true ∧ F.H0 a = none) then none else H a, B, F.S⟩
theorem Env.zoom (e : Env F σ H Γ M B ps) : Env (inner F H B M ps) σ H Γ M B ps := by
  have hin : ∀ a o, (inner F H B M ps).H0 a = some o → H a = some o := fun a o h => by
    unfold inner at h
    simp only at h
    split at h
    · cases h
    · exact h
  refine ⟨e.ex, Ex.rfl' B, fun a _ h => h, fun a o h _ => hin a o h, e.vl, e.len, e.al, e.mo, fun k p m h1 h2 h3 => ?_, e.sz, e.sl⟩
  obtain ⟨w1, w2, w3⟩ := e.own k p m h1 h2 h3
  refine ⟨w1, ?_, w3⟩
  rcases w2 with w2 | w2
  · left
    unfold inner
    simp only
    rw [if_pos ⟨k, m, h1, h2, h3, w2⟩]
  · exact .inr w2
theorem Env.unzoom (e : Env F σ H Γ M B ps) (e' : Env (inner F H B M ps) σ' H' Γ' M' B' ps') : Env F σ' H' Γ' M' B' ps' := by
  have hi : ∀ a, F.H0 a ≠ none → (inner F H B M ps).H0 a = H a := fun a h => by
    unfold inner
    simp only
    rw [if_neg]
    rintro ⟨k, m, _, _, _, z⟩
    exact h z
  have hH : ∀ a, F.H0 a ≠ none → H a ≠ none := fun a h z => h (e.fresh0 z)
  refine ⟨e'.ex, e.b0.tr e'.b0, fun a h1 h2 => ?_, fun a o h1 h2 => ?_, e'.vl, e'.len, e'.al, e'.mo, fun k p m h1 h2 h3 => ?_, e'.sz, e'.sl⟩
  · exact e'.bn a (by rw [hi a h1]; exact hH a h1) (e.bn a h1 h2)
  · refine e'.fr a o ?_ h2
    rw [hi a (by rw [h1]; exact fun z => by cases z)]
    exact e.fr a o h1 h2
  · obtain ⟨w1, w2, w3⟩ := e'.own k p m h1 h2 h3
    refine ⟨w1, ?_, w3⟩
    rcases w2 with w2 | w2
    · left
      cases q : F.H0 p with
      | none => rfl
      | some o =>
        have h4 : F.H0 p ≠ none := by rw [q]; exact fun z => by cases z
        rw [hi p h4] at w2
        exact absurd w2 (hH p h4)
    · exact .inr w2
theorem Env.kept (e : Env F σ H Γ M B ps) (e' : Env (inner F H B M ps) σ' H' Γ' M' B' ps') {a : Addr} {o : HO} (h : H a = some o) (hs : ¬ F.S a) (hp : ∀ (k : Nat), ps[k]? ≠ some a) : H' a = some o := by
  refine e'.fr a o ?_ hs
  unfold inner
  simp only
  rw [if_neg]
  · exact h
  · rintro ⟨k, m, z, _⟩
    exact hp k z
def asL (M : List MO) : D → Option (List PyData)
  | .dat (.list ds) => some ds
  | .ref k => match M[k]? with
    | some (.lst ds) => some ds
    | some (.bor ds) => some ds
    | _ => none
  | _ => none
def asT : D → Option (List PyData)
  | .dat (.tuple ds) => some ds
  | _ => none
theorem SqL.rd {K : PySem.W.Frag} {H : Hp} {a : Addr} {xs : List V} (h : Rd H a (.lst xs)) : SqL K H a xs := .inl h
theorem Env.asL (e : Env F σ H Γ M B ps) {v : V} {d : D} {ds : List PyData} (hv : VD B ps v d) (h : asL M d = some ds) : ∃ a xs, v = .ref a ∧ Rd H a (.lst xs) ∧ RpA B xs ds := by
  cases d with
  | dat x =>
    cases x with
    | list es =>
      cases h
      cases hv with
      | lst h1 h2 => exact ⟨_, _, rfl, .inl (e.ex _ _ h1), h2⟩
    | _ => cases h
  | ref k =>
    obtain ⟨p, h1, h2⟩ := hv
    unfold GL.asL at h
    simp only at h
    cases q : M[k]? with
    | none => rw [q] at h; cases h
    | some m =>
      rw [q] at h
      cases m with
      | lst es =>
        cases h
        obtain ⟨xs, w1, w2⟩ := e.mo _ p _ h1 q
        exact ⟨p, xs, h2, .inl w1, w2⟩
      | bor es =>
        cases h
        obtain ⟨xs, w1, w2⟩ := e.mo _ p _ h1 q
        exact ⟨p, xs, h2, w1, w2⟩
      | _ => cases h
/-- a list that is data or a def's own -/
def asO (M : List MO) : D → Option (List PyData)
  | .dat (.list ds) => some ds
  | .ref k => match M[k]? with
    | some (.lst ds) => some ds
    | _ => none
  | _ => none
theorem Env.asO (e : Env F σ H Γ M B ps) {v : V} {d : D} {ds : List PyData} (hv : VD B ps v d) (h : asO M d = some ds) : ∃ a xs, v = .ref a ∧ H a = some (.lst xs) ∧ RpA B xs ds := by
  cases d with
  | dat x =>
    cases x with
    | list es =>
      cases h
      cases hv with
      | lst h1 h2 => exact ⟨_, _, rfl, e.ex _ _ h1, h2⟩
    | _ => cases h
  | ref k =>
    obtain ⟨p, h1, h2⟩ := hv
    unfold GL.asO at h
    simp only at h
    cases q : M[k]? with
    | none => rw [q] at h; cases h
    | some m =>
      rw [q] at h
      cases m with
      | lst es =>
        cases h
        obtain ⟨xs, w1, w2⟩ := e.mo _ p _ h1 q
        exact ⟨p, xs, h2, w1, w2⟩
      | _ => cases h
theorem Env.asT (e : Env F σ H Γ M B ps) {v : V} {d : D} {ds : List PyData} (hv : VD B ps v d) (h : asT d = some ds) : ∃ a xs, v = .ref a ∧ H a = some (.tup xs) ∧ RpA B xs ds := by
  cases d with
  | dat x =>
    cases x with
    | tuple es =>
      cases h
      cases hv with
      | tup h1 h2 => exact ⟨_, _, rfl, e.ex _ _ h1, h2⟩
    | _ => cases h
  | ref k => cases h
end
end GL

/-! GL2: the judgements over data, and a rule for each reading. -/
namespace GL
open PySem PySem.Spec PyProof.Rows L2
abbrev PD := D → List MO → Prop
abbrev VDs (B : Hp) (ps : List Addr) : List V → List D → Prop := Paired (VD B ps)
theorem VDs.go {B B' : Hp} {ps ps' : List Addr} (g : Gro B B' ps ps') {vs : List V} {ds : List D} (h : VDs B ps vs ds) : VDs B' ps' vs ds := Paired.mapP h fun _ _ z => z.go g
def GE (te : TE) (Γ : Sl) (M : List MO) (P : PD) : Prop :=
  ∀ (F : Frm) (σ : L2.St) (H B : Hp) (ps : List Addr) (Q : VK), Env F σ H Γ M B ps →
    (∀ v d M' H' B' ps', P d M' → Env F σ H' Γ M' B' ps' → Gro B B' ps ps' → VD B' ps' v d → Q v H') → te σ H Q
def GT (tt : TT) (Γ : Sl) (M : List MO) (P : Bool → List MO → Prop) : Prop :=
  ∀ (F : Frm) (σ : L2.St) (H B : Hp) (ps : List Addr) (Q : Bool → Hp → Prop), Env F σ H Γ M B ps →
    (∀ b M' H' B' ps', P b M' → Env F σ H' Γ M' B' ps' → Gro B B' ps ps' → Q b H') → tt σ H Q
def GA (ta : TA) (Γ : Sl) (M : List MO) (P : List D → List MO → Prop) : Prop :=
  ∀ (F : Frm) (σ : L2.St) (H B : Hp) (ps : List Addr) (Q : List V → Hp → Prop), Env F σ H Γ M B ps →
    (∀ vs ds M' H' B' ps', P ds M' → Env F σ H' Γ M' B' ps' → Gro B B' ps ps' → VDs B' ps' vs ds → Q vs H') → ta σ H Q
structure GEnd where
  nx : Sl → List MO → Prop
  rt : PD
  bk : Sl → List MO → Prop := fun _ _ => False
  ct : Sl → List MO → Prop := fun _ _ => False
structure Lnk (F : Frm) (B : Hp) (ps : List Addr) (E : GEnd) (Dn : Ends) : Prop where
  nx : ∀ σ H Γ M B' ps', E.nx Γ M → Env F σ H Γ M B' ps' → Gro B B' ps ps' → Dn.nx σ H
  rt : ∀ v d σ H Γ M B' ps', E.rt d M → Env F σ H Γ M B' ps' → Gro B B' ps ps' → VD B' ps' v d → Dn.rt v H
  bk : ∀ σ H Γ M B' ps', E.bk Γ M → Env F σ H Γ M B' ps' → Gro B B' ps ps' → Dn.bk σ H
  ct : ∀ σ H Γ M B' ps', E.ct Γ M → Env F σ H Γ M B' ps' → Gro B B' ps ps' → Dn.ct σ H
theorem Lnk.go {F : Frm} {B B' : Hp} {ps ps' : List Addr} {E : GEnd} {Dn : Ends} (l : Lnk F B ps E Dn) (g : Gro B B' ps ps') : Lnk F B' ps' E Dn :=
  ⟨fun σ H Γ M B2 p2 h e q => l.nx σ H Γ M B2 p2 h e (g.tr q), fun v d σ H Γ M B2 p2 h e q => l.rt v d σ H Γ M B2 p2 h e (g.tr q), fun σ H Γ M B2 p2 h e q => l.bk σ H Γ M B2 p2 h e (g.tr q), fun σ H Γ M B2 p2 h e q => l.ct σ H Γ M B2 p2 h e (g.tr q)⟩
def GS (ts : TS) (Γ : Sl) (M : List MO) (E : GEnd) : Prop :=
  ∀ (F : Frm) (σ : L2.St) (H B : Hp) (ps : List Addr) (Dn : Ends), Env F σ H Γ M B ps → Lnk F B ps E Dn → ts Dn σ H
section
variable {Γ : Sl} {M : List MO} {P P' : PD} {ta tb te : TE} {tt tu : TT} {K : PySem.W.Frag}
theorem GE.mono (h : GE te Γ M P) (k : ∀ d M', P d M' → P' d M') : GE te Γ M P' := fun F σ H B ps Q e q => h F σ H B ps Q e fun v d M' H' B' ps' p => q v d M' H' B' ps' (k _ _ p)
theorem GT.mono {P P' : Bool → List MO → Prop} (h : GT tt Γ M P) (k : ∀ b M', P b M' → P' b M') : GT tt Γ M P' := fun F σ H B ps Q e q => h F σ H B ps Q e fun b M' H' B' ps' p => q b M' H' B' ps' (k _ _ p)
theorem ge_var {i : Nat} {d : D} (h : Γ[i]? = some (some d)) (p : P d M) : GE (tVar i) Γ M P := fun F σ H B ps Q e q => by
  obtain ⟨v, h1, h2⟩ := e.sl i d h
  exact ⟨v, h1, q v d M H B ps p e (Gro.rf B ps) h2⟩
theorem ge_c {v : V} {d : PyData} (h : ∀ H, Rp H v d) (p : P (.dat d) M) : GE (tC v) Γ M P := fun F σ H B ps Q e q => q v _ M H B ps p e (Gro.rf B ps) (h B)
theorem ge_int {i : Int} (p : P (.dat (.int i)) M) : GE (tC (.int i)) Γ M P := ge_c (fun _ => .int i) p
theorem ge_bl {i : Bool} (p : P (.dat (.bool i)) M) : GE (tC (.bl i)) Γ M P := ge_c (fun _ => .bl i) p
theorem ge_str {i : Str} (p : P (.dat (.str i)) M) : GE (tC (.str i)) Γ M P := ge_c (fun _ => .str i) p
theorem ge_non (p : P (.dat .none) M) : GE (tC .non) Γ M P := ge_c (fun _ => .non) p
/-- an operation of two values that makes no object -/
def OV (r : R2) (x y : D) (M : List MO) (z : PyData) : Prop := ∀ (F : Frm) (σ : L2.St) (H : Hp) (Γ : Sl) (B : Hp) (ps : List Addr) (v w : V), Env F σ H Γ M B ps → VD B ps v x → VD B ps w y → ∃ u, Rp B u z ∧ ∀ Q : VK, Q u H → r v w H Q
/-- any operation of two values -/
def OG (r : R2) (x y : D) (Γ : Sl) (M : List MO) (P : PD) : Prop := ∀ (F : Frm) (σ : L2.St) (H B : Hp) (ps : List Addr) (v w : V) (Q : VK), Env F σ H Γ M B ps → VD B ps v x → VD B ps w y →
    (∀ u d M' H' B' ps', P d M' → Env F σ H' Γ M' B' ps' → Gro B B' ps ps' → VD B' ps' u d → Q u H') → r v w H Q
theorem OV.og {r : R2} {x y : D} {z : PyData} (h : OV r x y M z) (p : P (.dat z) M) : OG r x y Γ M P := fun F σ H B ps v w Q e hv hw q => by
  obtain ⟨u, h1, h2⟩ := h F σ H Γ B ps v w e hv hw
  exact h2 Q (q u _ M H B ps p e (Gro.rf B ps) h1)
theorem ge_op {r : R2} (h : GE ta Γ M fun x M1 => GE tb Γ M1 fun y M2 => OG r x y Γ M2 P) : GE (tOp r ta tb) Γ M P := fun F σ H B ps Q e q =>
  h F σ H B ps _ e fun v x M1 H1 B1 p1 h1 e1 g1 v1 => h1 F σ H1 B1 p1 _ e1 fun w y M2 H2 B2 p2 h2 e2 g2 w2 =>
    h2 F σ H2 B2 p2 v w Q e2 (v1.go g2) w2 fun u d M3 H3 B3 p3 pd e3 g3 vd => q u d M3 H3 B3 p3 pd e3 ((g1.tr g2).tr g3) vd
theorem ge_ov {r : R2} (h : GE ta Γ M fun x M1 => GE tb Γ M1 fun y M2 => ∃ z, OV r x y M2 z ∧ P (.dat z) M2) : GE (tOp r ta tb) Γ M P :=
  ge_op (h.mono fun _ _ k => k.mono fun _ _ ⟨_, h1, h2⟩ => h1.og h2)
theorem ge_un {r : V → Hp → VK → Prop} {f : Int → Int} (hr : r = rU fun i => .int (f i)) (h : GE ta Γ M fun x M1 => ∃ i, x = .dat (.int i) ∧ P (.dat (.int (f i))) M1) : GE (tUn r ta) Γ M P := fun F σ H B ps Q e q =>
  h F σ H B ps _ e fun v x M1 H1 B1 p1 ⟨i, ex, h1⟩ e1 g1 v1 => by
    subst ex; subst hr
    cases v1
    exact ⟨i, rfl, q _ _ M1 H1 B1 p1 h1 e1 g1 (.int _)⟩
theorem ge_if (h : GT tt Γ M fun b M1 => (b = true → GE ta Γ M1 P) ∧ (b = false → GE tb Γ M1 P)) : GE (tIf tt ta tb) Γ M P := fun F σ H B ps Q e q =>
  h F σ H B ps _ e fun b M1 H1 B1 p1 hb e1 g1 => by
    cases b with
    | true => exact hb.1 rfl F σ H1 B1 p1 Q e1 fun u d M3 H3 B3 p3 pd e3 g3 vd => q u d M3 H3 B3 p3 pd e3 (g1.tr g3) vd
    | false => exact hb.2 rfl F σ H1 B1 p1 Q e1 fun u d M3 H3 B3 p3 pd e3 g3 vd => q u d M3 H3 B3 p3 pd e3 (g1.tr g3) vd
theorem ge_andV (h : GE ta Γ M fun x M1 => ∃ c, x = .dat (.bool c) ∧ (c = true → GE tb Γ M1 P) ∧ (c = false → P (.dat (.bool false)) M1)) : GE (tAndV ta tb) Γ M P := fun F σ H B ps Q e q =>
  h F σ H B ps _ e fun v x M1 H1 B1 p1 ⟨c, ex, h1, h2⟩ e1 g1 v1 => by
    subst ex
    cases v1
    refine ⟨c, rfl, ?_⟩
    cases c with
    | true => exact h1 rfl F σ H1 B1 p1 Q e1 fun u d M3 H3 B3 p3 pd e3 g3 vd => q u d M3 H3 B3 p3 pd e3 (g1.tr g3) vd
    | false => exact q _ _ M1 H1 B1 p1 (h2 rfl) e1 g1 (.bl _)
theorem ge_orV (h : GE ta Γ M fun x M1 => ∃ c, x = .dat (.bool c) ∧ (c = true → P (.dat (.bool true)) M1) ∧ (c = false → GE tb Γ M1 P)) : GE (tOrV ta tb) Γ M P := fun F σ H B ps Q e q =>
  h F σ H B ps _ e fun v x M1 H1 B1 p1 ⟨c, ex, h1, h2⟩ e1 g1 v1 => by
    subst ex
    cases v1
    refine ⟨c, rfl, ?_⟩
    cases c with
    | false => exact h2 rfl F σ H1 B1 p1 Q e1 fun u d M3 H3 B3 p3 pd e3 g3 vd => q u d M3 H3 B3 p3 pd e3 (g1.tr g3) vd
    | true => exact q _ _ M1 H1 B1 p1 (h1 rfl) e1 g1 (.bl _)
theorem ge_notV (h : GE ta Γ M fun x M1 => ∃ c, x = .dat (.bool c) ∧ P (.dat (.bool (!c))) M1) : GE (tNotV ta) Γ M P := fun F σ H B ps Q e q =>
  h F σ H B ps _ e fun v x M1 H1 B1 p1 ⟨c, ex, h1⟩ e1 g1 v1 => by
    subst ex
    cases v1
    exact ⟨c, rfl, q _ _ M1 H1 B1 p1 h1 e1 g1 (.bl _)⟩
def isN : PyData → Bool
  | .none => true
  | _ => false
theorem ge_isN (h : GE ta Γ M fun x M1 => ∃ d, x = .dat d ∧ P (.dat (.bool (isN d))) M1) : GE (tIsN ta) Γ M P := fun F σ H B ps Q e q =>
  h F σ H B ps _ e fun v x M1 H1 B1 p1 ⟨d, ex, h1⟩ e1 g1 v1 => by
    subst ex
    have : decide (v = .non) = isN d := by cases v1 <;> rfl
    rw [this]
    exact q _ _ M1 H1 B1 p1 h1 e1 g1 (.bl _)
theorem ge_notN (h : GE ta Γ M fun x M1 => ∃ d, x = .dat d ∧ P (.dat (.bool (!isN d))) M1) : GE (tNotN ta) Γ M P := fun F σ H B ps Q e q =>
  h F σ H B ps _ e fun v x M1 H1 B1 p1 ⟨d, ex, h1⟩ e1 g1 v1 => by
    subst ex
    have : (!decide (v = .non)) = !isN d := by cases v1 <;> rfl
    rw [this]
    exact q _ _ M1 H1 B1 p1 h1 e1 g1 (.bl _)
theorem ge_chain {r r' : R2} {tc : TE} (h : GE ta Γ M fun x M1 => GE tb Γ M1 fun y M2 => OG r x y Γ M2 fun z M3 => ∃ c, z = .dat (.bool c) ∧ (c = true → GE tc Γ M3 fun w M4 => OG r' y w Γ M4 P) ∧ (c = false → P (.dat (.bool false)) M3)) : GE (tChain r r' ta tb tc) Γ M P := fun F σ H B ps Q e q =>
  h F σ H B ps _ e fun v x M1 H1 B1 p1 h1 e1 g1 v1 => h1 F σ H1 B1 p1 _ e1 fun w y M2 H2 B2 p2 h2 e2 g2 w2 =>
    h2 F σ H2 B2 p2 v w _ e2 (v1.go g2) w2 fun u d M3 H3 B3 p3 ⟨c, ed, k1, k2⟩ e3 g3 vd => by
      subst ed
      cases vd
      refine ⟨c, rfl, ?_⟩
      cases c with
      | true =>
        refine k1 rfl F σ H3 B3 p3 _ e3 fun w' y' M4 H4 B4 p4 h4 e4 g4 w4 => h4 F σ H4 B4 p4 w w' Q e4 (w2.go (g3.tr g4)) w4 fun u d M5 H5 B5 p5 pd e5 g5 vd => q u d M5 H5 B5 p5 pd e5 ((((g1.tr g2).tr g3).tr g4).tr g5) vd
      | false => exact q _ _ M3 H3 B3 p3 (k2 rfl) e3 ((g1.tr g2).tr g3) (.bl _)
/-! ### tests -/
theorem gt_test {P : Bool → List MO → Prop} (h : GE te Γ M fun x M1 => ∃ c, x = .dat (.bool c) ∧ P c M1) : GT (tTest te) Γ M P := fun F σ H B ps Q e q =>
  h F σ H B ps _ e fun v x M1 H1 B1 p1 ⟨c, ex, h1⟩ e1 g1 v1 => by
    subst ex
    cases v1
    exact ⟨c, rfl, q _ M1 H1 B1 p1 h1 e1 g1⟩
theorem gt_B {P : Bool → List MO → Prop} (h : GE te Γ M fun x M1 => ∃ c, x = .dat (.bool c) ∧ P c M1) : GT (tB te) Γ M P := gt_test h
theorem gt_and {P : Bool → List MO → Prop} (h : GT tt Γ M fun c M1 => (c = true → GT tu Γ M1 P) ∧ (c = false → P false M1)) : GT (tAnd tt tu) Γ M P := fun F σ H B ps Q e q =>
  h F σ H B ps _ e fun b M1 H1 B1 p1 hb e1 g1 => by
    cases b with
    | true => exact hb.1 rfl F σ H1 B1 p1 Q e1 fun u M3 H3 B3 p3 pd e3 g3 => q u M3 H3 B3 p3 pd e3 (g1.tr g3)
    | false => exact q _ M1 H1 B1 p1 (hb.2 rfl) e1 g1
theorem gt_or {P : Bool → List MO → Prop} (h : GT tt Γ M fun c M1 => (c = true → P true M1) ∧ (c = false → GT tu Γ M1 P)) : GT (tOr tt tu) Γ M P := fun F σ H B ps Q e q =>
  h F σ H B ps _ e fun b M1 H1 B1 p1 hb e1 g1 => by
    cases b with
    | false => exact hb.2 rfl F σ H1 B1 p1 Q e1 fun u M3 H3 B3 p3 pd e3 g3 => q u M3 H3 B3 p3 pd e3 (g1.tr g3)
    | true => exact q _ M1 H1 B1 p1 (hb.1 rfl) e1 g1
theorem gt_not {P : Bool → List MO → Prop} (h : GT tt Γ M fun c M1 => P (!c) M1) : GT (tNot tt) Γ M P := fun F σ H B ps Q e q =>
  h F σ H B ps _ e fun b M1 H1 B1 p1 hb e1 g1 => q _ M1 H1 B1 p1 hb e1 g1
/-! ### arguments, displays -/
theorem ga_nil {P : List D → List MO → Prop} (p : P [] M) : GA tNil Γ M P := fun F σ H B ps Q e q => q [] [] M H B ps p e (Gro.rf B ps) .nil
theorem ga_cons {tr : TA} {P : List D → List MO → Prop} (h : GE ta Γ M fun d M1 => GA tr Γ M1 fun ds M2 => P (d :: ds) M2) : GA (tCons ta tr) Γ M P := fun F σ H B ps Q e q =>
  h F σ H B ps _ e fun v x M1 H1 B1 p1 h1 e1 g1 v1 => h1 F σ H1 B1 p1 _ e1 fun vs ds M2 H2 B2 p2 h2 e2 g2 w2 => q _ _ M2 H2 B2 p2 h2 e2 (g1.tr g2) (.cons (v1.go g2) w2)
theorem dats_rp {B : Hp} {ps : List Addr} : ∀ {vs : List V} {ds : List PyData}, VDs B ps vs (ds.map .dat) → RpA B vs ds
  | _, [], .nil => .nil
  | _, _ :: _, .cons h r => .cons h (dats_rp r)
theorem rp_dats {B : Hp} {ps : List Addr} : ∀ {vs : List V} {ds : List PyData}, RpA B vs ds → VDs B ps vs (ds.map .dat)
  | _, _, .nil => .nil
  | _, _, .cons h r => .cons h (rp_dats r)
theorem ge_tup {t : TA} (h : GA t Γ M fun ds M1 => ∃ xs : List PyData, ds = xs.map .dat ∧ xs.length ≤ 100000 ∧ P (.dat (.tuple xs)) M1) : GE (tTup t) Γ M P := fun F σ H B ps Q e q =>
  h F σ H B ps _ e fun vs ds M1 H1 B1 p1 ⟨xs, ex, hl, h1⟩ e1 g1 v1 => by
    subst ex
    have r := dats_rp v1
    refine ⟨by rw [r.len]; exact Nat.le_trans hl (by decide), fun p hp => ?_⟩
    obtain ⟨e2, g2⟩ := e1.newT (o := .tup vs) hp
    exact q _ _ M1 _ _ p1 h1 e2 (g1.tr g2) (.tup upd_same (r.mono g2.ex))
theorem ge_lst {t : TA} (h : GA t Γ M fun ds M1 => ∃ xs : List PyData, ds = xs.map .dat ∧ xs.length ≤ 100000 ∧ P (.ref M1.length) (M1 ++ [.lst xs])) : GE (tLst t) Γ M P := fun F σ H B ps Q e q =>
  h F σ H B ps _ e fun vs ds M1 H1 B1 p1 ⟨xs, ex, hl, h1⟩ e1 g1 v1 => by
    subst ex
    have r := dats_rp v1
    refine ⟨by rw [r.len]; exact Nat.le_trans hl (by decide), fun p hp => ?_⟩
    obtain ⟨e2, g2⟩ := e1.push (o := .lst vs) (m := .lst xs) hp ⟨vs, upd_same, r⟩
    exact q _ _ _ _ _ _ h1 e2 (g1.tr g2) ⟨p, by rw [← e1.len, List.getElem?_append_right (Nat.le_refl _), Nat.sub_self] <;> rfl, rfl⟩
theorem last_at (ps : List Addr) (p : Addr) : (ps ++ [p])[ps.length]? = some p := by rw [List.getElem?_append_right (Nat.le_refl _), Nat.sub_self] <;> rfl
/-- a new own list as data -/
theorem ge_frz (h : GE te Γ M fun d M' => (∃ x, d = .dat x ∧ P (.dat x) M') ∨ ∃ k ds, d = .ref k ∧ M.length ≤ k ∧ M'[k]? = some (.lst ds) ∧ P (.dat (.list ds)) (M'.set k .dead)) : GE te Γ M P := fun F σ H B ps Q e q =>
  h F σ H B ps Q e fun v d M' H' B' ps' hd e' g vd => by
    rcases hd with ⟨x, ex, hx⟩ | ⟨k, ds, ek, hk, hm, hp⟩
    · subst ex
      exact q v _ M' H' B' ps' hx e' g vd
    · subst ek
      obtain ⟨p, h1, h2⟩ := vd
      obtain ⟨B2, e2, g2, r⟩ := e'.freeze h1 hm
      subst h2
      have hΓ : Γ.map (fzD k (.list ds)) = Γ := by
        apply List.ext_getElem?
        intro i
        rw [List.getElem?_map]
        cases q : Γ[i]? with
        | none => rfl
        | some od =>
          cases od with
          | none => rfl
          | some d0 =>
            cases d0 with
            | dat x => rfl
            | ref j =>
              obtain ⟨v, _, p0, z, _⟩ := e.sl i _ q
              have hj := (List.getElem?_eq_some_iff.mp z).1
              rw [e.len] at hj
              show some (if j = k then some (D.dat (.list ds)) else some (.ref j)) = some (some (.ref j))
              rw [if_neg (by omega)]
      rw [hΓ] at e2
      exact q _ _ _ H' B2 ps' hp e2 (g.tr g2) r
/-! ### calls of built-ins by values -/
abbrev RC := List V → Hp → VK → Prop
def CG (r : RC) (ds : List D) (Γ : Sl) (M : List MO) (P : PD) : Prop := ∀ (F : Frm) (σ : L2.St) (H B : Hp) (ps : List Addr) (vs : List V) (Q : VK), Env F σ H Γ M B ps → VDs B ps vs ds →
    (∀ u d M' H' B' ps', P d M' → Env F σ H' Γ M' B' ps' → Gro B B' ps ps' → VD B' ps' u d → Q u H') → r vs H Q
theorem ge_cb {r : RC} {t : TA} (h : GA t Γ M fun ds M1 => CG r ds Γ M1 P) : GE (tCB r t) Γ M P := fun F σ H B ps Q e q =>
  h F σ H B ps _ e fun vs ds M1 H1 B1 p1 h1 e1 g1 v1 => h1 F σ H1 B1 p1 vs Q e1 v1 fun u d M3 H3 B3 p3 pd e3 g3 vd => q u d M3 H3 B3 p3 pd e3 (g1.tr g3) vd
theorem vds1 {B : Hp} {ps : List Addr} {vs : List V} {x : D} (h : VDs B ps vs [x]) : ∃ v, vs = [v] ∧ VD B ps v x := by
  cases h with
  | cons a b => cases b; exact ⟨_, rfl, a⟩
theorem vds2 {B : Hp} {ps : List Addr} {vs : List V} {x y : D} (h : VDs B ps vs [x, y]) : ∃ v w, vs = [v, w] ∧ VD B ps v x ∧ VD B ps w y := by
  cases h with
  | cons a b =>
    cases b with
    | cons c d => cases d; exact ⟨_, _, rfl, a, c⟩
abbrev rLen' (K : PySem.W.Frag) : RC := fun xs H Q => ∃ p ys, xs = [.ref p] ∧ (SqL K H p ys ∨ SqT K H p ys) ∧ Q (.int ys.length) H
theorem cg_len {x : D} {ds : List PyData} (h : asL M x = some ds ∨ asT x = some ds) (p : P (.dat (.int ds.length)) M) : CG (rLen' K) [x] Γ M P := fun F σ H B ps vs Q e hv q => by
  obtain ⟨v, rfl, hv0⟩ := vds1 hv; clear hv; have hv := hv0; clear hv0
  rcases h with h | h
  · obtain ⟨a, xs, rfl, ha, r⟩ := e.asL hv h
    exact ⟨a, xs, rfl, .inl (SqL.rd ha), by rw [r.len]; exact q _ _ M H B ps p e (Gro.rf B ps) (.int _)⟩
  · obtain ⟨a, xs, rfl, ha, r⟩ := e.asT hv h
    exact ⟨a, xs, rfl, .inr (SqT.of ha), by rw [r.len]; exact q _ _ M H B ps p e (Gro.rf B ps) (.int _)⟩
abbrev rList' (K : PySem.W.Frag) : RC := fun xs H Q => ∃ p ys, xs = [.ref p] ∧ (SqL K H p ys ∨ SqT K H p ys) ∧ ∀ l, H l = none → Q (.ref l) (upd H l (.lst ys))
theorem cg_list {x : D} {ds : List PyData} (h : asL M x = some ds ∨ asT x = some ds) (p : P (.ref M.length) (M ++ [.lst ds])) : CG (rList' K) [x] Γ M P := fun F σ H B ps vs Q e hv q => by
  obtain ⟨v, rfl, hv0⟩ := vds1 hv; clear hv; have hv := hv0; clear hv0
  have fin : ∀ (xs : List V), RpA B xs ds → ∀ l, H l = none → Q (.ref l) (upd H l (.lst xs)) := fun xs r l hl => by
    obtain ⟨e2, g2⟩ := e.push (o := .lst xs) (m := .lst ds) hl ⟨xs, upd_same, r⟩
    exact q _ _ _ _ _ _ p e2 g2 ⟨l, by rw [← e.len]; exact last_at ps l, rfl⟩
  rcases h with h | h
  · obtain ⟨a, xs, rfl, ha, r⟩ := e.asL hv h
    exact ⟨a, xs, rfl, .inl (SqL.rd ha), fin xs r⟩
  · obtain ⟨a, xs, rfl, ha, r⟩ := e.asT hv h
    exact ⟨a, xs, rfl, .inr (SqT.of ha), fin xs r⟩
abbrev rTuple' (K : PySem.W.Frag) : RC := fun xs H Q => ∃ p ys, xs = [.ref p] ∧ ((SqL K H p ys ∧ ∀ l, H l = none → Q (.ref l) (upd H l (.tup ys))) ∨ (SqT K H p ys ∧ Q (.ref p) H))
theorem cg_tuple {x : D} {ds : List PyData} (h : asL M x = some ds) (p : P (.dat (.tuple ds)) M) : CG (rTuple' K) [x] Γ M P := fun F σ H B ps vs Q e hv q => by
  obtain ⟨v, rfl, hv0⟩ := vds1 hv; clear hv; have hv := hv0; clear hv0
  obtain ⟨a, xs, rfl, ha, r⟩ := e.asL hv h
  refine ⟨a, xs, rfl, .inl ⟨SqL.rd ha, fun l hl => ?_⟩⟩
  obtain ⟨e2, g2⟩ := e.newT (o := .tup xs) hl
  exact q _ _ M _ _ ps p e2 g2 (.tup upd_same (r.mono g2.ex))
theorem cg_sum {x : D} {ns : List Int} (h : asL M x = some (ns.map .int)) (p : P (.dat (.int ns.sum)) M) : CG (rSum K) [x] Γ M P := fun F σ H B ps vs Q e hv q => by
  obtain ⟨v, rfl, hv0⟩ := vds1 hv; clear hv; have hv := hv0; clear hv0
  obtain ⟨a, xs, rfl, ha, r⟩ := e.asL hv h
  have := r.ints
  subst this
  exact ⟨a, ns, rfl, SqL.rd ha, q _ _ M H B ps p e (Gro.rf B ps) (.int _)⟩
theorem cg_all {x : D} {ns : List Bool} (h : asL M x = some (ns.map .bool)) (p : P (.dat (.bool (ns.all id))) M) : CG (rAll K) [x] Γ M P := fun F σ H B ps vs Q e hv q => by
  obtain ⟨v, rfl, hv0⟩ := vds1 hv; clear hv; have hv := hv0; clear hv0
  obtain ⟨a, xs, rfl, ha, r⟩ := e.asL hv h
  have := r.bools
  subst this
  exact ⟨a, ns, rfl, SqL.rd ha, q _ _ M H B ps p e (Gro.rf B ps) (.bl _)⟩
theorem cg_sorted {x : D} {ns : List Int} (h : asL M x = some (ns.map .int)) (hl : ns.length < 64) (p : ∀ ms : List Int, ms.Perm ns → ms.Pairwise (· ≤ ·) → P (.ref M.length) (M ++ [.lst (ms.map .int)])) : CG (rSorted K) [x] Γ M P := fun F σ H B ps vs Q e hv q => by
  obtain ⟨v, rfl, hv0⟩ := vds1 hv; clear hv; have hv := hv0; clear hv0
  obtain ⟨a, xs, rfl, ha, r⟩ := e.asL hv h
  have := r.ints
  subst this
  refine ⟨a, ns, rfl, SqL.rd ha, hl, fun ms l h1 h2 hl => ?_⟩
  obtain ⟨e2, g2⟩ := e.push (o := .lst (ms.map V.int)) (m := .lst (ms.map .int)) hl ⟨_, upd_same, RpA.ofInts ms⟩
  exact q _ _ _ _ _ _ (p ms h1 h2) e2 g2 ⟨l, by rw [← e.len]; exact last_at ps l, rfl⟩
def prD (r : Int × Int) : PyData := .tuple [.int r.1, .int r.2]
theorem pr_tups {B : Hp} : ∀ {xs : List V} {rs : List (Int × Int)}, RpA B xs (rs.map prD) → ∀ x ∈ xs, ∃ t i j, x = V.ref t ∧ B t = some (.tup [.int i, .int j])
  | _, [], .nil, x, hx => by cases hx
  | _, r :: rs, .cons h t, x, hx => by
    rcases List.mem_cons.mp hx with z | z
    · subst z
      cases h with
      | tup h1 h2 =>
        cases h2 with
        | cons h2 h3 =>
          cases h2
          cases h3 with
          | cons h3 h4 =>
            cases h3
            cases h4
            exact ⟨_, _, _, rfl, h1⟩
    · exact pr_tups t x z
theorem cg_sortedP {x : D} {rs : List (Int × Int)} (h : asL M x = some (rs.map prD)) (p : ∀ ms : List PyData, ms.Perm (rs.map prD) → P (.ref M.length) (M ++ [.lst ms])) : CG (rSortedP K) [x] Γ M P := fun F σ H B ps vs Q e hv q => by
  obtain ⟨v, rfl, hv0⟩ := vds1 hv; clear hv; have hv := hv0; clear hv0
  obtain ⟨a, xs, rfl, ha, r⟩ := e.asL hv h
  refine ⟨a, xs, rfl, SqL.rd ha, fun x hx => ?_, fun ys l h1 hl => ?_⟩
  · obtain ⟨t, i, j, h1, h2⟩ := pr_tups r x hx
    exact ⟨t, i, j, h1, e.ex _ _ h2⟩
  · obtain ⟨es, pe, re⟩ := r.perm h1
    obtain ⟨e2, g2⟩ := e.push (o := .lst ys) (m := .lst es) hl ⟨_, upd_same, re⟩
    exact q _ _ _ _ _ _ (p es pe) e2 g2 ⟨l, by rw [← e.len]; exact last_at ps l, rfl⟩
theorem cg_int2 {f : Int → Int → Int} {r : RC} (hr : r = fun xs H Q => ∃ i j, xs = [.int i, .int j] ∧ Q (.int (f i j)) H) {i j : Int} (p : P (.dat (.int (f i j))) M) : CG r [.dat (.int i), .dat (.int j)] Γ M P := fun F σ H B ps vs Q e hv q => by
  subst hr
  obtain ⟨v, w, rfl, hv0, hw⟩ := vds2 hv; clear hv; have hv := hv0; clear hv0
  cases hv
  cases hw
  exact ⟨i, j, rfl, q _ _ M H B ps p e (Gro.rf B ps) (.int _)⟩
abbrev rInt1 : RC := fun xs H Q => (∃ i, xs = [.int i] ∧ Q (.int i) H) ∨ ∃ k, xs = [.bl k] ∧ Q (.int (if k then 1 else 0)) H
theorem cg_int1 {i : Int} (p : P (.dat (.int i)) M) : CG rInt1 [.dat (.int i)] Γ M P := fun F σ H B ps vs Q e hv q => by
  obtain ⟨v, rfl, hv0⟩ := vds1 hv; clear hv; have hv := hv0; clear hv0
  cases hv
  exact .inl ⟨i, rfl, q _ _ M H B ps p e (Gro.rf B ps) (.int _)⟩
/-! ### operations -/
theorem ov_I0i {f : Int → Int → Int} {i j : Int} : OV (rI0 fun i j => .int (f i j)) (.dat (.int i)) (.dat (.int j)) M (.int (f i j)) := fun F σ H Γ B ps v w e hv hw => by
  cases hv; cases hw
  exact ⟨_, .int _, fun Q q => ⟨i, j, rfl, rfl, q⟩⟩
theorem ov_I0b {f : Int → Int → Bool} {i j : Int} : OV (rI0 fun i j => .bl (f i j)) (.dat (.int i)) (.dat (.int j)) M (.bool (f i j)) := fun F σ H Γ B ps v w e hv hw => by
  cases hv; cases hw
  exact ⟨_, .bl _, fun Q q => ⟨i, j, rfl, rfl, q⟩⟩
theorem ov_Ii {C : Int → Int → Prop} {f : Int → Int → Int} {i j : Int} (c : C i j) : OV (rI C fun i j => .int (f i j)) (.dat (.int i)) (.dat (.int j)) M (.int (f i j)) := fun F σ H Γ B ps v w e hv hw => by
  cases hv; cases hw
  exact ⟨_, .int _, fun Q q => ⟨i, j, rfl, rfl, c, q⟩⟩
/-- == of flat data that the rule serves -/
def flatEq : PyData → PyData → Option Bool
  | .int i, .int j => some (decide (i = j))
  | .str i, .str j => some (decide (i = j))
  | .bool i, .bool j => some (decide (i = j))
  | .none, .none => some true
  | .none, .int _ => some false | .int _, .none => some false
  | .int _, .str _ => some false | .str _, .int _ => some false
  | .none, .str _ => some false | .str _, .none => some false
  | _, _ => none
theorem ov_eq {x y : PyData} {b : Bool} (h : flatEq x y = some b) : OV rEq (.dat x) (.dat y) M (.bool b) := fun F σ H Γ B ps v w e hv hw => by
  refine ⟨.bl b, .bl b, fun Q q => ?_⟩
  have : scal v w = true ∧ decide (v = w) = b := by
    cases hv <;> cases hw <;> first | (cases h; done) | (simp only [flatEq, Option.some.injEq] at h; subst h; refine ⟨rfl, ?_⟩; simp)
  exact ⟨this.1, by rw [this.2]; exact q⟩
theorem ov_ne {x y : PyData} {b : Bool} (h : flatEq x y = some b) : OV rNe (.dat x) (.dat y) M (.bool (!b)) := fun F σ H Γ B ps v w e hv hw => by
  refine ⟨.bl (!b), .bl (!b), fun Q q => ?_⟩
  have : scal v w = true ∧ decide (v = w) = b := by
    cases hv <;> cases hw <;> first | (cases h; done) | (simp only [flatEq, Option.some.injEq] at h; subst h; refine ⟨rfl, ?_⟩; simp)
  exact ⟨this.1, by rw [this.2]; exact q⟩
theorem Env.deq {F : Frm} {σ : L2.St} {H : Hp} {Γ : Sl} {M : List MO} {B : Hp} {ps : List Addr} (e : Env F σ H Γ M B ps) {v : V} {d : PyData} (h : VD B ps v (.dat d)) : Dp K H v d := (Rp.mono e.ex h).dp
theorem ov_eqD {x y : PyData} (h1 : SeqAt.shaped x = true) (h2 : SeqAt.shaped y = true) : OV (rEqD K) (.dat x) (.dat y) M (.bool (PyData.eqv x y)) := fun F σ H Γ B ps v w e hv hw =>
  ⟨_, .bl _, fun Q q => ⟨x, y, e.deq hv, e.deq hw, h1, h2, q⟩⟩
theorem ov_neD {x y : PyData} (h1 : SeqAt.shaped x = true) (h2 : SeqAt.shaped y = true) : OV (rNeD K) (.dat x) (.dat y) M (.bool (!PyData.eqv x y)) := fun F σ H Γ B ps v w e hv hw =>
  ⟨_, .bl _, fun Q q => ⟨x, y, e.deq hv, e.deq hw, h1, h2, q⟩⟩
theorem at_rp {B : Hp} {xs : List V} {ds : List PyData} (r : RpA B xs ds) {i : Int} {d : PyData} (h : atI ds i = some d) : ∃ v, atI xs i = some v ∧ Rp B v d := by
  unfold atI at h ⊢
  rw [r.len]
  cases q : ixN ds.length i with
  | none => rw [q] at h; cases h
  | some j => rw [q] at h; exact r.get h
theorem ov_ixL {x : D} {ds : List PyData} {i : Int} {d : PyData} (h : asL M x = some ds) (hi : atI ds i = some d) : OV (rIxL K) x (.dat (.int i)) M d := fun F σ H Γ B ps v w e hv hw => by
  obtain ⟨a, xs, rfl, ha, r⟩ := e.asL hv h
  cases hw
  obtain ⟨u, h1, h2⟩ := at_rp r hi
  exact ⟨u, h2, fun Q q => ⟨a, xs, i, u, rfl, rfl, SqL.rd ha, h1, q⟩⟩
theorem ov_ixT {x : D} {ds : List PyData} {i : Int} {d : PyData} (h : asT x = some ds) (hi : atI ds i = some d) : OV (rIxT K) x (.dat (.int i)) M d := fun F σ H Γ B ps v w e hv hw => by
  obtain ⟨a, xs, rfl, ha, r⟩ := e.asT hv h
  cases hw
  obtain ⟨u, h1, h2⟩ := at_rp r hi
  exact ⟨u, h2, fun Q q => ⟨a, xs, i, u, rfl, rfl, SqT.of ha, h1, q⟩⟩
theorem ints_flat (ns : List Int) : (ns.map V.int).all flatV = true := by
  induction ns with
  | nil => rfl
  | cons n ns ih => exact ih
theorem ints_in (n : Int) (ns : List Int) : inV (.int n) (ns.map V.int) = decide (n ∈ ns) := by
  unfold inV
  induction ns with
  | nil => rfl
  | cons m ns ih =>
    rw [List.map_cons, List.any_cons, ih, Bool.eq_iff_iff]
    simp only [eqV, Bool.or_eq_true, beq_iff_eq, decide_eq_true_eq, List.mem_cons]
    constructor <;> rintro (h | h) <;> first | exact .inl h.symm | exact .inr h
/-- n in ns, n not in ns -/
theorem ov_in {x : D} {ns : List Int} {n : Int} {neg : Bool} (h : asL M x = some (ns.map .int)) : OV (rIn K neg) (.dat (.int n)) x M (.bool (if neg then !decide (n ∈ ns) else decide (n ∈ ns))) := fun F σ H Γ B ps v w e hv hw => by
  cases hv
  obtain ⟨a, xs, rfl, ha, r⟩ := e.asL hw h
  have := r.ints
  subst this
  refine ⟨_, .bl _, fun Q q => ⟨a, _, rfl, .inl (SqL.rd ha), rfl, ints_flat ns, ?_⟩⟩
  rw [ints_in]
  exact q
theorem strs_all {B : Hp} : ∀ {vs : List V} {ns : List Str}, RpA B vs (ns.map .str) → vs = ns.map V.str
  | _, [], .nil => rfl
  | _, n :: ns, .cons h r => by
    cases h
    rw [strs_all r] <;> rfl
theorem strs_flat (ns : List Str) : (ns.map V.str).all flatV = true := by
  induction ns with
  | nil => rfl
  | cons n ns ih => exact ih
theorem strs_in (n : Str) (ns : List Str) : inV (.str n) (ns.map V.str) = decide (n ∈ ns) := by
  unfold inV
  induction ns with
  | nil => rfl
  | cons m ns ih =>
    rw [List.map_cons, List.any_cons, ih, Bool.eq_iff_iff]
    simp only [eqV, Bool.or_eq_true, beq_iff_eq, decide_eq_true_eq, List.mem_cons]
    constructor <;> rintro (h | h) <;> first | exact .inl h.symm | exact .inr h
theorem ov_inS {x : D} {ns : List Str} {n : Str} {neg : Bool} (h : asL M x = some (ns.map .str)) : OV (rIn K neg) (.dat (.str n)) x M (.bool (if neg then !decide (n ∈ ns) else decide (n ∈ ns))) := fun F σ H Γ B ps v w e hv hw => by
  cases hv
  obtain ⟨a, xs, rfl, ha, r⟩ := e.asL hw h
  have := strs_all r
  subst this
  refine ⟨_, .bl _, fun Q q => ⟨a, _, rfl, .inl (SqL.rd ha), rfl, strs_flat ns, ?_⟩⟩
  rw [strs_in]
  exact q
theorem ov_isin {x : D} {ns : List Int} {n : Int} (h : asL M x = some (ns.map .int)) : OV (rIn K false) (.dat (.int n)) x M (.bool (decide (n ∈ ns))) := ov_in (neg := false) h
theorem ov_notin {x : D} {ns : List Int} {n : Int} (h : asL M x = some (ns.map .int)) : OV (rIn K true) (.dat (.int n)) x M (.bool (!decide (n ∈ ns))) := ov_in (neg := true) h
/-- xs + ys, a new list -/
theorem og_cat {x y : D} {ds es : List PyData} (h1 : asO M x = some ds) (h2 : asO M y = some es) (hl : ds.length + es.length ≤ 100000) (p : P (.ref M.length) (M ++ [.lst (ds ++ es)])) : OG rCat x y Γ M P := fun F σ H B ps v w Q e hv hw q => by
  obtain ⟨a, xs, rfl, ha, r⟩ := e.asO hv h1
  obtain ⟨b, ys, rfl, hb, r2⟩ := e.asO hw h2
  refine ⟨a, b, xs, ys, rfl, rfl, ha, hb, by rw [r.len, r2.len]; exact Nat.le_trans hl (by decide), fun l hl => ?_⟩
  obtain ⟨e2, g2⟩ := e.push (o := .lst (xs ++ ys)) (m := .lst (ds ++ es)) hl ⟨_, upd_same, r.app r2⟩
  exact q _ _ _ _ _ _ p e2 g2 ⟨l, by rw [← e.len]; exact last_at ps l, rfl⟩
theorem ge_cat (h : GE ta Γ M fun x M1 => GE tb Γ M1 fun y M2 => ∃ ds es, asO M2 x = some ds ∧ asO M2 y = some es ∧ ds.length + es.length ≤ 100000 ∧ P (.ref M2.length) (M2 ++ [.lst (ds ++ es)])) : GE (tOp rCat ta tb) Γ M P :=
  ge_op (h.mono fun _ _ k => k.mono fun _ _ ⟨_, _, h1, h2, h3, h4⟩ => og_cat h1 h2 h3 h4)
/-! ### slices -/
def GO (t : TO) (Γ : Sl) (M : List MO) (P : Option Int → List MO → Prop) : Prop :=
  ∀ (F : Frm) (σ : L2.St) (H B : Hp) (ps : List Addr) (Q : Option Int → Hp → Prop), Env F σ H Γ M B ps →
    (∀ o M' H' B' ps', P o M' → Env F σ H' Γ M' B' ps' → Gro B B' ps ps' → Q o H') → t σ H Q
theorem go_none {P : Option Int → List MO → Prop} (p : P none M) : GO tNoPart Γ M P := fun F σ H B ps Q e q => q none M H B ps p e (Gro.rf B ps)
theorem go_some {P : Option Int → List MO → Prop} (h : GE te Γ M fun x M1 => ∃ i, x = .dat (.int i) ∧ P (some i) M1) : GO (tPart te) Γ M P := fun F σ H B ps Q e q =>
  h F σ H B ps _ e fun v x M1 H1 B1 p1 ⟨i, ex, h1⟩ e1 g1 v1 => by
    subst ex
    cases v1
    exact ⟨i, rfl, q _ M1 H1 B1 p1 h1 e1 g1⟩
def cutD (ds : List PyData) (lo hi : Option Int) : List PyData := (ds.drop (HT.sIx ds.length 0 lo)).take (HT.sIx ds.length ds.length hi - HT.sIx ds.length 0 lo)
theorem cut_rp {B : Hp} {xs : List V} {ds : List PyData} (r : RpA B xs ds) (lo hi : Option Int) : RpA B (cutV xs lo hi) (cutD ds lo hi) := by
  unfold cutV cutD
  rw [r.len]
  exact (r.dr _).tk _
theorem ge_slL {tl th : TO} (h : GE te Γ M fun x M1 => GO tl Γ M1 fun lo M2 => GO th Γ M2 fun hi M3 => ∃ ds, asL M3 x = some ds ∧ P (.ref M3.length) (M3 ++ [.lst (cutD ds lo hi)])) : GE (tSl (rSlL K) te tl th) Γ M P := fun F σ H B ps Q e q =>
  h F σ H B ps _ e fun v x M1 H1 B1 p1 h1 e1 g1 v1 => h1 F σ H1 B1 p1 _ e1 fun lo M2 H2 B2 p2 h2 e2 g2 => h2 F σ H2 B2 p2 _ e2 fun hi M3 H3 B3 p3 ⟨ds, hd, h3⟩ e3 g3 => by
    obtain ⟨a, xs, ev, ha, r⟩ := e3.asL (v1.go (g2.tr g3)) hd
    subst ev
    refine ⟨a, xs, rfl, SqL.rd ha, fun l hl => ?_⟩
    obtain ⟨e4, g4⟩ := e3.push (o := .lst (cutV xs lo hi)) (m := .lst (cutD ds lo hi)) hl ⟨_, upd_same, cut_rp r lo hi⟩
    exact q _ _ _ _ _ _ h3 e4 (((g1.tr g2).tr g3).tr g4) ⟨l, by rw [← e3.len]; exact last_at p3 l, rfl⟩
end
end GL

/-! GL3: targets, statements, loops, comprehensions, objects that change, calls of defs. -/
namespace GL
open PySem PySem.Spec PyProof.Rows L2
/-! ### targets -/
def GG (g : TG) (vs : List Nat) (d : D) (Γ : Sl) (P : Sl → Prop) : Prop :=
  ∀ (F : Frm) (σ : L2.St) (H B : Hp) (M : List MO) (ps : List Addr) (v : V) (Q : L2.St → Hp → Prop), Env F σ H Γ M B ps → VD B ps v d →
    (∀ σ2 Γ2, P Γ2 → Env F σ2 H Γ2 M B ps → σ2.length = σ.length → (∀ j, j ∉ vs → σ2[j]? = σ[j]?) → Q σ2 H) → g v σ H Q
def GGs (g : TGs) (vs : List Nat) (ds : List PyData) (Γ : Sl) (P : Sl → Prop) : Prop :=
  ∀ (F : Frm) (σ : L2.St) (H B : Hp) (M : List MO) (ps : List Addr) (xs : List V) (Q : L2.St → Hp → Prop), Env F σ H Γ M B ps → RpA B xs ds →
    (∀ σ2 Γ2, P Γ2 → Env F σ2 H Γ2 M B ps → σ2.length = σ.length → (∀ j, j ∉ vs → σ2[j]? = σ[j]?) → Q σ2 H) → g xs σ H Q
section
variable {Γ : Sl} {M : List MO} {K : PySem.W.Frag} {vs : List Nat} {P : Sl → Prop}
theorem gg_name {i : Nat} {d : D} (hi : i ∈ vs) (p : P (Γ.set i (some d))) : GG (gName i) vs d Γ P := fun F σ H B M ps v Q e hv q =>
  q _ _ p (e.set hv) (List.length_set ..) fun j hj => List.getElem?_set_ne fun z => hj (by rw [← z]; exact hi)
theorem ggs_nil (p : P Γ) : GGs gNil vs [] Γ P := fun F σ H B M ps xs Q e hv q => by
  cases hv
  exact ⟨rfl, q σ Γ p e rfl fun _ _ => rfl⟩
theorem ggs_cons {t : TG} {u : TGs} {d : PyData} {ds : List PyData} (h : GG t vs (.dat d) Γ fun Γ1 => GGs u vs ds Γ1 P) : GGs (gCons t u) vs (d :: ds) Γ P := fun F σ H B M ps xs Q e hv q => by
  cases hv with
  | cons h1 h2 =>
    exact ⟨_, _, rfl, h F σ H B M ps _ _ e h1 fun σ1 Γ1 k1 e1 l1 o1 => k1 F σ1 H B M ps _ Q e1 h2 fun σ2 Γ2 k2 e2 l2 o2 => q σ2 Γ2 k2 e2 (l2.trans l1) fun j hj => (o2 j hj).trans (o1 j hj)⟩
theorem gg_tup {n : Nat} {g : TGs} {ds : List PyData} (hn : ds.length = n) (h : GGs g vs ds Γ P) : GG (gTup K n g) vs (.dat (.tuple ds)) Γ P := fun F σ H B M ps v Q e hv q => by
  obtain ⟨a, xs, rfl, ha, r⟩ := e.asT hv rfl
  exact ⟨a, xs, rfl, SqT.of ha, by rw [r.len]; exact hn, h F σ H B M ps xs Q e r q⟩
end
/-! ### statements -/
section
variable {Γ : Sl} {M : List MO} {E : GEnd} {ta tb te : TE} {tt : TT} {t u : TS} {K : PySem.W.Frag}
theorem gs_next (p : E.nx Γ M) : GS tNext Γ M E := fun F σ H B ps Dn e l => l.nx σ H Γ M B ps p e (Gro.rf B ps)
theorem gs_seq (h : GS t Γ M { E with nx := fun Γ' M' => GS u Γ' M' E }) : GS (tSeq t u) Γ M E := fun F σ H B ps Dn e l =>
  h F σ H B ps { Dn with nx := u Dn } e ⟨fun σ' H' Γ' M' B' ps' k e' g => k F σ' H' B' ps' Dn e' (l.go g), l.rt, l.bk, l.ct⟩
theorem gs_cut (N : Sl → List MO → Prop) (h : GS t Γ M { E with nx := N }) (k : ∀ Γ' M', N Γ' M' → GS u Γ' M' E) : GS (tSeq t u) Γ M E := fun F σ H B ps Dn e l =>
  h F σ H B ps { Dn with nx := u Dn } e ⟨fun σ' H' Γ' M' B' ps' n e' g => k Γ' M' n F σ' H' B' ps' Dn e' (l.go g), l.rt, l.bk, l.ct⟩
theorem gs_mono {E' : GEnd} (h : GS t Γ M E) (k1 : ∀ Γ M, E.nx Γ M → E'.nx Γ M) (k2 : ∀ d M, E.rt d M → E'.rt d M) (k3 : ∀ Γ M, E.bk Γ M → E'.bk Γ M) (k4 : ∀ Γ M, E.ct Γ M → E'.ct Γ M) : GS t Γ M E' := fun F σ H B ps Dn e l =>
  h F σ H B ps Dn e ⟨fun σ' H' Γ' M' B' ps' n => l.nx σ' H' Γ' M' B' ps' (k1 _ _ n), fun v d σ' H' Γ' M' B' ps' n => l.rt v d σ' H' Γ' M' B' ps' (k2 _ _ n), fun σ' H' Γ' M' B' ps' n => l.bk σ' H' Γ' M' B' ps' (k3 _ _ n), fun σ' H' Γ' M' B' ps' n => l.ct σ' H' Γ' M' B' ps' (k4 _ _ n)⟩
theorem gs_ret (h : GE te Γ M E.rt) : GS (tRet te) Γ M E := fun F σ H B ps Dn e l => h F σ H B ps _ e fun v d M' H' B' ps' k e' g hv => l.rt v d σ H' Γ M' B' ps' k e' g hv
theorem gs_retN (p : E.rt (.dat .none) M) : GS tRetN Γ M E := fun F σ H B ps Dn e l => l.rt _ _ σ H Γ M B ps p e (Gro.rf B ps) .non
theorem gs_brk (p : E.bk Γ M) : GS tBreak Γ M E := fun F σ H B ps Dn e l => l.bk σ H Γ M B ps p e (Gro.rf B ps)
theorem gs_cnt (p : E.ct Γ M) : GS tCont Γ M E := fun F σ H B ps Dn e l => l.ct σ H Γ M B ps p e (Gro.rf B ps)
theorem gs_drop (h : GE te Γ M fun _ M' => E.nx Γ M') : GS (tDrop te) Γ M E := fun F σ H B ps Dn e l => h F σ H B ps _ e fun v d M' H' B' ps' k e' g hv => l.nx σ H' Γ M' B' ps' k e' g
theorem gs_asg {g : TG} (vs : List Nat) (h : GE te Γ M fun d M' => GG g vs d Γ fun Γ' => E.nx Γ' M') : GS (tAsg te g) Γ M E := fun F σ H B ps Dn e l =>
  h F σ H B ps _ e fun v d M' H' B' ps' k e' gr hv => k F σ H' B' M' ps' v _ e' hv fun σ2 Γ2 p e2 _ _ => l.nx σ2 H' Γ2 M' B' ps' p e2 gr
theorem gs_set {i : Nat} (h : GE te Γ M fun d M' => E.nx (Γ.set i (some d)) M') : GS (tAsg te (gName i)) Γ M E :=
  gs_asg [i] (h.mono fun d M' k => gg_name (List.mem_singleton.mpr rfl) k)
theorem gs_if (h : GT tt Γ M fun b M' => (b = true → GS t Γ M' E) ∧ (b = false → GS u Γ M' E)) : GS (tIfS tt t u) Γ M E := fun F σ H B ps Dn e l =>
  h F σ H B ps _ e fun b M' H' B' ps' k e' g => by
    cases b with
    | true => exact k.1 rfl F σ H' B' ps' Dn e' (l.go g)
    | false => exact k.2 rfl F σ H' B' ps' Dn e' (l.go g)
/-- an own list becomes data -/
theorem gs_freeze (k : Nat) {ds : List PyData} (hk : M[k]? = some (.lst ds)) (h : GS t (Γ.map (fzD k (.list ds))) (M.set k .dead) E) : GS t Γ M E := fun F σ H B ps Dn e l => by
  obtain ⟨p, hp⟩ := e.mem hk
  obtain ⟨B2, e2, g2, _⟩ := e.freeze hp hk
  exact h F σ H B2 ps Dn e2 (l.go g2)
/-- less is known of slots -/
theorem Env.less {F : Frm} {σ : L2.St} {H : Hp} {Γ Γ' : Sl} {M : List MO} {B : Hp} {ps : List Addr} (e : Env F σ H Γ M B ps) (hl : Γ'.length = Γ.length) (hs : ∀ (i : Nat) d, Γ'[i]? = some (some d) → Γ[i]? = some (some d)) : Env F σ H Γ' M B ps :=
  e.slots (by rw [hl]; exact e.sz) fun i d h => e.sl i d (hs i d h)
theorem gs_less {Γ' : Sl} (hl : Γ'.length = Γ.length) (hs : ∀ (i : Nat) d, Γ'[i]? = some (some d) → Γ[i]? = some (some d)) (h : GS t Γ' M E) : GS t Γ M E := fun F σ H B ps Dn e l => h F σ H B ps Dn (e.less hl hs) l
/-- objects behind are let go -/
theorem Env.drop {F : Frm} {σ : L2.St} {H : Hp} {Γ : Sl} {M M0 : List MO} {B : Hp} {ps : List Addr} (e : Env F σ H Γ M B ps) (h0 : ∀ (k : Nat) m, M0[k]? = some m → M[k]? = some m) (hΓ : ∀ (i : Nat) k, Γ[i]? = some (some (.ref k)) → k < M0.length) :
    Env F σ H Γ M0 B (ps.take M0.length) := by
  have hM : M0.length ≤ M.length := by
    rcases Nat.lt_or_ge M.length M0.length with h | h
    · have := (List.getElem?_eq_some_iff.mp (h0 _ _ (List.getElem?_eq_getElem h))).1
      omega
    · exact h
  have tk : ∀ (k : Nat) p, (ps.take M0.length)[k]? = some p → ps[k]? = some p ∧ k < M0.length := fun k p h => by
    rw [List.getElem?_take] at h
    split at h
    · exact ⟨h, by assumption⟩
    · cases h
  refine ⟨e.ex, e.b0, e.bn, e.fr, e.vl, by rw [List.length_take, e.len]; omega, fun k p h => e.al k p (tk k p h).1, fun k p m h1 h2 => e.mo k p m (tk k p h1).1 (h0 k m h2), fun k p m h1 h2 h3 => ?_, e.sz, fun i d h => ?_⟩
  · obtain ⟨w1, w2, w3⟩ := e.own k p m (tk k p h1).1 (h0 k m h2) h3
    exact ⟨w1, w2, fun j hj => w3 j (tk j p hj).1⟩
  · obtain ⟨v, h1, h2⟩ := e.sl i d h
    refine ⟨v, h1, ?_⟩
    cases d with
    | dat x => exact h2
    | ref k =>
      obtain ⟨p, z1, z2⟩ := h2
      have := hΓ i k h
      exact ⟨p, by rw [List.getElem?_take, if_pos this]; exact z1, z2⟩
/-! ### what a loop walks -/
structure WalkOk (J : It) (need : List MO → Prop) (ds : List PyData) (B : Hp) (ps : List Addr) : Prop where
  go : ∀ (F : Frm) (σ : L2.St) (H : Hp) (Γ : Sl) (M : List MO) (B2 : Hp) (ps2 : List Addr), Env F σ H Γ M B2 ps2 → Gro B B2 ps ps2 → need M → ∀ (i : Nat) d, ds[i]? = some d →
    J.go i H ∧ ∀ x H3, J.yld i H x H3 → ∃ B3, Env F σ H3 Γ M B3 ps2 ∧ Ex B2 B3 ∧ Ex H H3 ∧ Rp B3 x d
  stop : ∀ (F : Frm) (σ : L2.St) (H : Hp) (Γ : Sl) (M : List MO) (B2 : Hp) (ps2 : List Addr), Env F σ H Γ M B2 ps2 → Gro B B2 ps ps2 → need M → J.stop ds.length H
abbrev PI' := (List MO → Prop) → List PyData → List MO → Prop
def GI (wi : TI) (Γ : Sl) (M : List MO) (R : PI') : Prop :=
  ∀ (F : Frm) (σ : L2.St) (H B : Hp) (ps : List Addr) (Q : It → Hp → Prop), Env F σ H Γ M B ps →
    (∀ J need ds M' H' B' ps', R need ds M' → Env F σ H' Γ M' B' ps' → Gro B B' ps ps' → WalkOk J need ds B' ps' → Q J H') → wi σ H Q
theorem gi_list {R : PI'} (h : GE ta Γ M fun x M1 => ∃ ds, asL M1 x = some ds ∧ R (fun M' => asL M' x = some ds) ds M1) : GI (iList K ta) Γ M R := fun F σ H B ps Q e q =>
  h F σ H B ps _ e fun v x M1 H1 B1 p1 ⟨ds, hd, h1⟩ e1 g1 v1 => by
    obtain ⟨a, xs, ev, ha, r⟩ := e1.asL v1 hd
    refine ⟨a, ev, ⟨xs, SqL.rd ha⟩, q _ _ ds M1 H1 B1 p1 h1 e1 g1 ⟨fun F' σ' H' Γ' M' B2 p2 e2 g2 hn i d hi => ?_, fun F' σ' H' Γ' M' B2 p2 e2 g2 hn => ?_⟩⟩
    · obtain ⟨a', ys, ev', ha', r'⟩ := e2.asL (v1.go g2) hn
      rw [ev] at ev'
      cases ev'
      obtain ⟨y, hy, ry⟩ := r'.get hi
      refine ⟨⟨ys, y, SqL.rd ha', hy⟩, fun x' H3 hyl => ?_⟩
      obtain ⟨rfl, fx⟩ := hyl
      have := fx ys (SqL.rd ha')
      rw [hy] at this
      cases this
      exact ⟨B2, e2, Ex.rfl' _, Ex.rfl' _, ry⟩
    · obtain ⟨a', ys, ev', ha', r'⟩ := e2.asL (v1.go g2) hn
      rw [ev] at ev'
      cases ev'
      exact ⟨ys, SqL.rd ha', Nat.le_of_eq r'.len⟩
theorem gi_tup {R : PI'} (h : GE ta Γ M fun x M1 => ∃ ds, asT x = some ds ∧ R (fun _ => True) ds M1) : GI (iTup K ta) Γ M R := fun F σ H B ps Q e q =>
  h F σ H B ps _ e fun v x M1 H1 B1 p1 ⟨ds, hd, h1⟩ e1 g1 v1 => by
    obtain ⟨a, xs, ev, ha, r⟩ := e1.asT v1 hd
    refine ⟨a, ev, ⟨xs, SqT.of ha⟩, q _ _ ds M1 H1 B1 p1 h1 e1 g1 ⟨fun F' σ' H' Γ' M' B2 p2 e2 g2 hn i d hi => ?_, fun F' σ' H' Γ' M' B2 p2 e2 g2 hn => ?_⟩⟩
    · obtain ⟨a', ys, ev', ha', r'⟩ := e2.asT (v1.go g2) hd
      rw [ev] at ev'
      cases ev'
      obtain ⟨y, hy, ry⟩ := r'.get hi
      refine ⟨⟨ys, y, SqT.of ha', hy⟩, fun x' H3 hyl => ?_⟩
      obtain ⟨rfl, fx⟩ := hyl
      have := fx ys (SqT.of ha')
      rw [hy] at this
      cases this
      exact ⟨B2, e2, Ex.rfl' _, Ex.rfl' _, ry⟩
    · obtain ⟨a', ys, ev', ha', r'⟩ := e2.asT (v1.go g2) hd
      rw [ev] at ev'
      cases ev'
      exact ⟨ys, SqT.of ha', Nat.le_of_eq r'.len⟩
def rngD (lo : Int) (n : Nat) : List PyData := (List.range n).map fun i => .int (lo + (i : Nat))
theorem rng_get {lo : Int} {n i : Nat} {d : PyData} (h : (rngD lo n)[i]? = some d) : i < n ∧ d = .int (lo + (i : Nat)) := by
  unfold rngD at h
  rw [List.getElem?_map] at h
  by_cases hi : i < n
  · rw [List.getElem?_range hi] at h
    exact ⟨hi, (Option.some.inj h).symm⟩
  · rw [List.getElem?_eq_none (by rw [List.length_range]; omega)] at h
    cases h
theorem walk_rng (lo : Int) (n : Nat) (B : Hp) (ps : List Addr) : WalkOk (Itr lo n) (fun _ => True) (rngD lo n) B ps :=
  ⟨fun F' σ' H' Γ' M' B2 p2 e2 g2 hn i d hi => by
    obtain ⟨h1, rfl⟩ := rng_get hi
    refine ⟨h1, fun x H3 hy => ?_⟩
    obtain ⟨rfl, rfl⟩ := hy
    exact ⟨B2, e2, Ex.rfl' _, Ex.rfl' _, .int _⟩, fun F' σ' H' Γ' M' B2 p2 e2 g2 hn => by
    show n ≤ (rngD lo n).length
    unfold rngD
    rw [List.length_map, List.length_range]
    exact Nat.le_refl _⟩
theorem gi_rng1 {R : PI'} {t : TA} (h : GA t Γ M fun ds M1 => ∃ j : Int, ds = [.dat (.int j)] ∧ (-(2 ^ 62) ≤ j ∧ j < 2 ^ 62) ∧ R (fun _ => True) (rngD 0 j.toNat) M1) : GI (iRng1 t) Γ M R := fun F σ H B ps Q e q =>
  h F σ H B ps _ e fun vs ds M1 H1 B1 p1 ⟨j, ed, hj, h1⟩ e1 g1 v1 => by
    subst ed
    obtain ⟨v, rfl, hv⟩ := vds1 v1
    cases hv
    exact ⟨j, rfl, hj.1, hj.2, q _ _ _ M1 H1 B1 p1 h1 e1 g1 (walk_rng _ _ _ _)⟩
theorem gi_rng2 {R : PI'} {t : TA} (h : GA t Γ M fun ds M1 => ∃ i j : Int, ds = [.dat (.int i), .dat (.int j)] ∧ (-(2 ^ 62) ≤ i ∧ i < 2 ^ 62 ∧ -(2 ^ 62) ≤ j ∧ j < 2 ^ 62) ∧ R (fun _ => True) (rngD i (j - i).toNat) M1) : GI (iRng2 t) Γ M R := fun F σ H B ps Q e q =>
  h F σ H B ps _ e fun vs ds M1 H1 B1 p1 ⟨i, j, ed, hj, h1⟩ e1 g1 v1 => by
    subst ed
    obtain ⟨v, w, rfl, hv, hw⟩ := vds2 v1
    cases hv
    cases hw
    exact ⟨i, j, rfl, hj, q _ _ _ M1 H1 B1 p1 h1 e1 g1 (walk_rng _ _ _ _)⟩
def rngC (lo c : Int) (n : Nat) : List PyData := (List.range n).map fun i => .int (lo + (i : Nat) * c)
theorem rngC_get {lo c : Int} {n i : Nat} {d : PyData} (h : (rngC lo c n)[i]? = some d) : i < n ∧ d = .int (lo + (i : Nat) * c) := by
  unfold rngC at h
  rw [List.getElem?_map] at h
  by_cases hi : i < n
  · rw [List.getElem?_range hi] at h
    exact ⟨hi, (Option.some.inj h).symm⟩
  · rw [List.getElem?_eq_none (by rw [List.length_range]; omega)] at h
    cases h
theorem vds3 {B : Hp} {ps : List Addr} {vs : List V} {x y z : D} (h : VDs B ps vs [x, y, z]) : ∃ v w u, vs = [v, w, u] ∧ VD B ps v x ∧ VD B ps w y ∧ VD B ps u z := by
  cases h with
  | cons a b =>
    cases b with
    | cons c d =>
      cases d with
      | cons f g => cases g; exact ⟨_, _, _, rfl, a, c, f⟩
theorem gi_rng3 {R : PI'} {t : TA} (h : GA t Γ M fun ds M1 => ∃ (i j c : Int) (n : Nat), ds = [.dat (.int i), .dat (.int j), .dat (.int c)] ∧ RgC i j c n ∧ R (fun _ => True) (rngC i c n) M1) : GI (iRng3 t) Γ M R := fun F σ H B ps Q e q =>
  h F σ H B ps _ e fun vs ds M1 H1 B1 p1 ⟨i, j, c, n, ed, hj, h1⟩ e1 g1 v1 => by
    subst ed
    obtain ⟨v, w, u, rfl, hv, hw, hu⟩ := vds3 v1
    cases hv
    cases hw
    cases hu
    refine ⟨i, j, c, n, rfl, hj, q _ _ _ M1 H1 B1 p1 h1 e1 g1 ⟨fun F' σ' H' Γ' M' B2 p2 e2 g2 hn k d hk => ?_, fun F' σ' H' Γ' M' B2 p2 e2 g2 hn => ?_⟩⟩
    · obtain ⟨k1, rfl⟩ := rngC_get hk
      refine ⟨k1, fun x H3 hy => ?_⟩
      obtain ⟨rfl, rfl⟩ := hy
      exact ⟨B2, e2, Ex.rfl' _, Ex.rfl' _, .int _⟩
    · show n ≤ (rngC i c n).length
      unfold rngC
      rw [List.length_map, List.length_range]
      exact Nat.le_refl _
def enumD (ds : List PyData) : List PyData := (List.range ds.length).map fun i => .tuple [.int (i : Nat), ds.getD i .none]
theorem enum_get {ds : List PyData} {i : Nat} {d : PyData} (h : (enumD ds)[i]? = some d) : ∃ x, ds[i]? = some x ∧ d = .tuple [.int (i : Nat), x] := by
  unfold enumD at h
  rw [List.getElem?_map] at h
  by_cases hi : i < ds.length
  · rw [List.getElem?_range hi] at h
    refine ⟨ds[i], List.getElem?_eq_getElem hi, ?_⟩
    have := (Option.some.inj h).symm
    rw [this]
    show PyData.tuple [.int (i : Nat), ds.getD i .none] = PyData.tuple [.int (i : Nat), ds[i]]
    rw [List.getD_eq_getElem?_getD, List.getElem?_eq_getElem hi]
    rfl
  · rw [List.getElem?_eq_none (by rw [List.length_range]; omega)] at h
    cases h
theorem enum_len (ds : List PyData) : (enumD ds).length = ds.length := by unfold enumD; rw [List.length_map, List.length_range]
theorem gi_enum {R : PI'} {t : TA} (h : GA t Γ M fun es M1 => ∃ x ds, es = [x] ∧ asL M1 x = some ds ∧ R (fun M' => asL M' x = some ds) (enumD ds) M1) : GI (iEnum K t) Γ M R := fun F σ H B ps Q e q =>
  h F σ H B ps _ e fun vs es M1 H1 B1 p1 ⟨x, ds, ee, hd, h1⟩ e1 g1 v1 => by
    subst ee
    obtain ⟨v, rfl, hv⟩ := vds1 v1
    obtain ⟨a, xs, ev, ha, r⟩ := e1.asL hv hd
    refine ⟨a, xs, by rw [ev], SqL.rd ha, q _ _ _ M1 H1 B1 p1 h1 e1 g1 ⟨fun F' σ' H' Γ' M' B2 p2 e2 g2 hn i d hi => ?_, fun F' σ' H' Γ' M' B2 p2 e2 g2 hn => ?_⟩⟩
    · obtain ⟨z, hz, rfl⟩ := enum_get hi
      obtain ⟨a', ys, ev', ha', r'⟩ := e2.asL (hv.go g2) hn
      rw [ev] at ev'
      cases ev'
      obtain ⟨y, hy, ry⟩ := r'.get hz
      refine ⟨⟨ys, y, SqL.rd ha', hy⟩, fun x' H3 hyl => ?_⟩
      obtain ⟨T, y', rfl, nT, rfl, fx⟩ := hyl
      have := fx ys (SqL.rd ha')
      rw [hy] at this
      cases this
      obtain ⟨e3, g3⟩ := e2.newT (o := .tup [.int (i : Nat), y]) nT
      exact ⟨_, e3, g3.ex, Ex.new nT, .tup upd_same (.cons (.int _) (.cons (ry.mono g3.ex) .nil))⟩
    · obtain ⟨a', ys, ev', ha', r'⟩ := e2.asL (hv.go g2) hn
      rw [ev] at ev'
      cases ev'
      exact ⟨ys, SqL.rd ha', by rw [enum_len]; exact Nat.le_of_eq r'.len⟩
/-! ### for, while -/
theorem gs_for {wi : TI} {g : TG} (vs : List Nat) (h : GI wi Γ M fun need ds M1 => ∃ J : Nat → Sl → List MO → Prop, J 0 Γ M1 ∧ (∀ i Γ' M', J i Γ' M' → need M') ∧
      (∀ (i : Nat) d Γ' M', ds[i]? = some d → J i Γ' M' → GG g vs (.dat d) Γ' fun Γ2 => GS t Γ2 M' { nx := J (i + 1), ct := J (i + 1), bk := E.nx, rt := E.rt }) ∧ (∀ Γ' M', J ds.length Γ' M' → E.nx Γ' M')) : GS (tFor wi g t) Γ M E := fun F σ H B ps Dn e l =>
  h F σ H B ps _ e fun It need ds M1 H1 B1 p1 ⟨J, j0, jn, js, je⟩ e1 g1 w => by
    refine ⟨fun i m σ' H' => m = ds.length - i ∧ i ≤ ds.length ∧ ∃ Γ' M' B' ps', J i Γ' M' ∧ Env F σ' H' Γ' M' B' ps' ∧ Gro B1 B' p1 ps', ⟨ds.length, rfl, Nat.zero_le _, Γ, M1, B1, p1, j0, e1, Gro.rf _ _⟩, ?_⟩
    rintro i m σ' H' ⟨rfl, hi, Γ', M', B', ps', hJ, e', g'⟩
    by_cases hlt : i < ds.length
    · have hd : ds[i]? = some ds[i] := List.getElem?_eq_getElem hlt
      obtain ⟨hgo, hyl⟩ := w.go F σ' H' Γ' M' B' ps' e' g' (jn i Γ' M' hJ) i _ hd
      refine .inr ⟨hgo, fun σ2 H2 => ∃ Γ2 M2 B2 ps2, J (i + 1) Γ2 M2 ∧ Env F σ2 H2 Γ2 M2 B2 ps2 ∧ Gro B1 B2 p1 ps2, fun σ2 H2 ⟨Γ2, M2, B2, ps2, z1, z2, z3⟩ => ⟨ds.length - (i + 1), by omega, rfl, hlt, Γ2, M2, B2, ps2, z1, z2, z3⟩, fun x H3 hx => ?_⟩
      obtain ⟨B3, e3, b3, _, r3⟩ := hyl x H3 hx
      have g3 : Gro B1 B3 p1 ps' := g'.tr ⟨b3, fun _ _ h => h⟩
      refine js i _ Γ' M' hd hJ F σ' H3 B3 M' ps' x _ e3 r3 fun σ2 Γ2 k2 e2 _ _ => ?_
      have l1 := (l.go g1).go g3
      exact k2 F σ2 H3 B3 ps' _ e2 ⟨fun σ4 H4 Γ4 M4 B4 p4 z e4 g4 => ⟨Γ4, M4, B4, p4, z, e4, g3.tr g4⟩, l1.rt, l1.nx, fun σ4 H4 Γ4 M4 B4 p4 z e4 g4 => ⟨Γ4, M4, B4, p4, z, e4, g3.tr g4⟩⟩
    · have e0 : i = ds.length := by omega
      subst e0
      exact .inl ⟨w.stop F σ' H' Γ' M' B' ps' e' g' (jn _ Γ' M' hJ), (l.go g1).nx σ' H' Γ' M' B' ps' (je Γ' M' hJ) e' g'⟩
theorem gs_while (J : Nat → Sl → List MO → Prop) (j0 : ∃ m, J m Γ M) (js : ∀ m Γ' M', J m Γ' M' → GT tt Γ' M' fun b M2 => (b = true → GS t Γ' M2 { nx := fun Γ3 M3 => ∃ m', m' < m ∧ J m' Γ3 M3, ct := fun Γ3 M3 => ∃ m', m' < m ∧ J m' Γ3 M3, bk := E.nx, rt := E.rt }) ∧ (b = false → E.nx Γ' M2)) : GS (tWhile tt t) Γ M E := fun F σ H B ps Dn e l => by
  obtain ⟨m0, j0⟩ := j0
  refine ⟨fun m σ' H' => ∃ Γ' M' B' ps', J m Γ' M' ∧ Env F σ' H' Γ' M' B' ps' ∧ Gro B B' ps ps', ⟨m0, Γ, M, B, ps, j0, e, Gro.rf _ _⟩, ?_⟩
  rintro m σ' H' ⟨Γ', M', B', ps', hJ, e', g'⟩
  refine js m Γ' M' hJ F σ' H' B' ps' _ e' fun b M2 H2 B2 p2 k e2 g2 => ?_
  have l2 := l.go (g'.tr g2)
  cases b with
  | true => exact ⟨fun σ3 H3 => ∃ m', m' < m ∧ ∃ Γ3 M3 B3 p3, J m' Γ3 M3 ∧ Env F σ3 H3 Γ3 M3 B3 p3 ∧ Gro B B3 ps p3, fun σ3 H3 z => z, k.1 rfl F σ' H2 B2 p2 _ e2 ⟨fun σ4 H4 Γ4 M4 B4 p4 ⟨m', hm, z⟩ e4 g4 => ⟨m', hm, Γ4, M4, B4, p4, z, e4, (g'.tr g2).tr g4⟩, l2.rt, l2.nx, fun σ4 H4 Γ4 M4 B4 p4 ⟨m', hm, z⟩ e4 g4 => ⟨m', hm, Γ4, M4, B4, p4, z, e4, (g'.tr g2).tr g4⟩⟩⟩
  | false => exact l2.nx σ' H2 Γ' M2 B2 p2 (k.2 rfl) e2 (Gro.rf _ _)
/-! ### objects that change -/
theorem ge_append {P : PD} {to : TE} (h : GE to Γ M fun x M1 => ∃ k ds0, x = .ref k ∧ M1[k]? = some (.lst ds0) ∧ GE te Γ M1 fun y M2 => ∃ d ds, y = .dat d ∧ M2[k]? = some (.lst ds) ∧ ds.length < 100000 ∧ P (.dat .none) (M2.set k (.lst (ds ++ [d])))) :
    GE (tBM K "list" rAppend to (tCons te tNil)) Γ M P := fun F σ H B ps Q e q =>
  h F σ H B ps _ e fun v x M1 H1 B1 p1 ⟨k, ds0, ex, hk0, h1⟩ e1 g1 v1 => by
    subst ex
    obtain ⟨p, hp, rfl⟩ := v1
    obtain ⟨xs0, hx0, _⟩ := e1.mo k p _ hp hk0
    refine ⟨.inl ⟨rfl, xs0, SqL.of hx0⟩, h1 F σ H1 B1 p1 _ e1 fun w y M2 H2 B2 p2 ⟨d, ds, ey, hk, hl, hP⟩ e2 g2 w2 => ?_⟩
    subst ey
    have hp2 := g2.pre k p hp
    obtain ⟨xs, hx, r⟩ := e2.mo k p _ hp2 hk
    have e3 := e2.put (o := .lst (xs ++ [w])) (m' := .lst (ds ++ [d])) hp2 hk rfl ⟨_, upd_same, r.app (.cons w2 .nil)⟩ (.inl rfl)
    exact ⟨p, xs, w, rfl, rfl, hx, by rw [r.len]; exact Nat.lt_of_lt_of_le hl (by decide), q _ _ _ _ _ _ hP e3 (g1.tr g2) .non⟩
theorem seq_nat {j n : Nat} (h : j < n) : seqIndex? (j : Int) n = some j := by
  unfold seqIndex?
  simp only
  have h1 : ¬ ((j : Int) < 0) := by omega
  have h2 : (decide (0 ≤ (j : Int)) && decide ((j : Int) < (n : Int))) = true := by
    rw [decide_eq_true (by omega), decide_eq_true (by omega)] <;> rfl
  rw [if_neg h1, if_pos h2]
  simp
theorem ge_popAt {P : PD} {to : TE} (h : GE to Γ M fun x M1 => ∃ k ds0, x = .ref k ∧ M1[k]? = some (.lst ds0) ∧ GE te Γ M1 fun y M2 => ∃ (j : Nat) (d : PyData) (ds : List PyData), y = .dat (.int (j : Int)) ∧ M2[k]? = some (.lst ds) ∧ ds.length < 100000 ∧ ds[j]? = some d ∧ P (.dat d) (M2.set k (.lst (ds.eraseIdx j)))) :
    GE (tBM K "list" rPopAt to (tCons te tNil)) Γ M P := fun F σ H B ps Q e q =>
  h F σ H B ps _ e fun v x M1 H1 B1 p1 ⟨k, ds0, ex, hk0, h1⟩ e1 g1 v1 => by
    subst ex
    obtain ⟨p, hp, rfl⟩ := v1
    obtain ⟨xs0, hx0, _⟩ := e1.mo k p _ hp hk0
    refine ⟨.inl ⟨rfl, xs0, SqL.of hx0⟩, h1 F σ H1 B1 p1 _ e1 fun w y M2 H2 B2 p2 ⟨j, d, ds, ey, hk, hl, hj, hP⟩ e2 g2 w2 => ?_⟩
    subst ey
    cases w2
    have hp2 := g2.pre k p hp
    obtain ⟨xs, hx, r⟩ := e2.mo k p _ hp2 hk
    obtain ⟨u, hu, ru⟩ := r.get hj
    have hjl := (List.getElem?_eq_some_iff.mp hj).1
    have e3 := e2.put (o := .lst (xs.eraseIdx j)) (m' := .lst (ds.eraseIdx j)) hp2 hk rfl ⟨_, upd_same, r.er j⟩ (.inl rfl)
    exact ⟨p, xs, (j : Int), j, u, rfl, rfl, hx, by omega, by omega, by rw [r.len]; exact seq_nat hjl, hu, q _ _ _ _ _ _ hP e3 (g1.tr g2) ru⟩
/-- xs[i] = e -/
theorem gs_setL {to ti : TE} (h : GE te Γ M fun y M1 => ∃ d, y = .dat d ∧ GE to Γ M1 fun x M2 => ∃ k, x = .ref k ∧ GE ti Γ M2 fun z M3 => ∃ (i : Int) (j : Nat) (ds : List PyData), z = .dat (.int i) ∧ M3[k]? = some (.lst ds) ∧ ixN ds.length i = some j ∧ E.nx Γ (M3.set k (.lst (ds.set j d)))) :
    GS (tAsg te (gSub to ti rSetL)) Γ M E := fun F σ H B ps Dn e l =>
  h F σ H B ps _ e fun v y M1 H1 B1 p1 ⟨d, ey, h1⟩ e1 g1 v1 => h1 F σ H1 B1 p1 _ e1 fun w x M2 H2 B2 p2 ⟨k, ex, h2⟩ e2 g2 w2 => h2 F σ H2 B2 p2 _ e2 fun u z M3 H3 B3 p3 ⟨i, j, ds, ez, hk, hj, h3⟩ e3 g3 u3 => by
    subst ey; subst ex; subst ez
    cases u3
    obtain ⟨p, hp, rfl⟩ := w2
    have hp3 := g3.pre k p hp
    obtain ⟨xs, hx, r⟩ := e3.mo k p _ hp3 hk
    have e4 := e3.put (o := .lst (xs.set j v)) (m' := .lst (ds.set j d)) hp3 hk rfl ⟨_, upd_same, RpA.st (v1.go (g2.tr g3)) j r⟩ (.inl rfl)
    exact ⟨p, xs, i, j, rfl, rfl, hx, by rw [r.len]; exact hj, l.nx _ _ _ _ _ _ h3 e4 ((g1.tr g2).tr g3)⟩
/-! ### dicts with keys that are ints or texts -/
def kP : Key → PyData
  | .inl i => .int i
  | .inr x => .str x
theorem rp_key {B : Hp} {v : V} {k : Key} (h : Rp B v (kP k)) : v = kV k := by
  cases k <;> cases h <;> rfl
theorem ge_dget {P : PD} {td ty : TE} (h : GE td Γ M fun x M1 => ∃ o, x = .ref o ∧ GE ty Γ M1 fun y M2 => ∃ k f n d, y = .dat (kP k) ∧ M2[o]? = some (.dct f n) ∧ f k = some d ∧ P (.dat d) M2) : GE (tDGet td ty) Γ M P := fun F σ H B ps Q e q =>
  h F σ H B ps _ e fun v x M1 H1 B1 p1 ⟨o, ex, h1⟩ e1 g1 v1 => h1 F σ H1 B1 p1 _ e1 fun w y M2 H2 B2 p2 ⟨k, f, n, d, ey, ho, hf, hP⟩ e2 g2 w2 => by
    subst ex; subst ey
    obtain ⟨p, hp, rfl⟩ := v1
    have hp2 := g2.pre o p hp
    obtain ⟨kvs, hx, hl, hr⟩ := e2.mo o p _ hp2 ho
    have ek := rp_key w2
    subst ek
    have z := hr k
    rw [hf] at z
    cases q2 : valV kvs k with
    | none => rw [q2] at z; exact z.elim
    | some u =>
      rw [q2] at z
      exact ⟨p, u, rfl, by rw [← q2]; exact DGet.k hx, q _ _ _ _ _ _ hP e2 (g1.tr g2) z⟩
theorem ro_some {B : Hp} {v : Option V} {d : Option PyData} (h : RO B v d) : v.isSome = d.isSome := by
  cases v <;> cases d <;> first | rfl | exact h.elim
theorem ge_din {P : PD} {td ty : TE} (h : GE ty Γ M fun y M1 => GE td Γ M1 fun x M2 => ∃ o k f n, x = .ref o ∧ y = .dat (kP k) ∧ M2[o]? = some (.dct f n) ∧ P (.dat (.bool (f k).isSome)) M2) : GE (tDIn ty td) Γ M P := fun F σ H B ps Q e q =>
  h F σ H B ps _ e fun w y M1 H1 B1 p1 h1 e1 g1 w1 => h1 F σ H1 B1 p1 _ e1 fun v x M2 H2 B2 p2 ⟨o, k, f, n, ex, ey, ho, hP⟩ e2 g2 v2 => by
    subst ex; subst ey
    obtain ⟨p, hp, rfl⟩ := v2
    obtain ⟨kvs, hx, hl, hr⟩ := e2.mo o p _ hp ho
    have ek := rp_key w1
    subst ek
    refine ⟨p, valV kvs k, rfl, DGet.k hx, ?_⟩
    rw [ro_some (hr k)]
    exact q _ _ _ _ _ _ hP e2 (g1.tr g2) (.bl _)
theorem ge_dnotin {P : PD} {td ty : TE} (h : GE ty Γ M fun y M1 => GE td Γ M1 fun x M2 => ∃ o k f n, x = .ref o ∧ y = .dat (kP k) ∧ M2[o]? = some (.dct f n) ∧ P (.dat (.bool (!(f k).isSome))) M2) : GE (tDNotIn ty td) Γ M P := fun F σ H B ps Q e q =>
  h F σ H B ps _ e fun w y M1 H1 B1 p1 h1 e1 g1 w1 => h1 F σ H1 B1 p1 _ e1 fun v x M2 H2 B2 p2 ⟨o, k, f, n, ex, ey, ho, hP⟩ e2 g2 v2 => by
    subst ex; subst ey
    obtain ⟨p, hp, rfl⟩ := v2
    obtain ⟨kvs, hx, hl, hr⟩ := e2.mo o p _ hp ho
    have ek := rp_key w1
    subst ek
    refine ⟨p, valV kvs k, rfl, DGet.k hx, ?_⟩
    rw [ro_some (hr k)]
    exact q _ _ _ _ _ _ hP e2 (g1.tr g2) (.bl _)
theorem len_put (kvs : List (Key × V)) (k : Key) (v : V) : (putK kvs k v).length ≤ kvs.length + 1 := by
  unfold putK
  split
  · rw [List.length_map]; omega
  · rw [List.length_append, List.length_singleton]; exact Nat.le_refl _
theorem put_ro {B : Hp} {kvs : List (Key × V)} {f : Key → Option PyData} {k : Key} {v : V} {d : PyData} (hr : ∀ k, RO B (valV kvs k) (f k)) (hv : Rp B v d) (j : Key) : RO B (valV (putK kvs k v) j) (if j = k then some d else f j) := by
  rw [valV_put]
  by_cases z : j = k
  · rw [if_pos z, if_pos z]; exact hv
  · rw [if_neg z, if_neg z]; exact hr j
/-- d[k] = e -/
theorem gs_dput {td ty : TE} (h : GE te Γ M fun y M1 => ∃ d, y = .dat d ∧ GE td Γ M1 fun x M2 => ∃ o, x = .ref o ∧ GE ty Γ M2 fun z M3 => ∃ k f n, z = .dat (kP k) ∧ M3[o]? = some (.dct f n) ∧ n < 100000 ∧ E.nx Γ (M3.set o (.dct (fun j => if j = k then some d else f j) (n + 1)))) :
    GS (sDPut td ty te) Γ M E := fun F σ H B ps Dn e l =>
  h F σ H B ps _ e fun v y M1 H1 B1 p1 ⟨d, ey, h1⟩ e1 g1 v1 => h1 F σ H1 B1 p1 _ e1 fun w x M2 H2 B2 p2 ⟨o, ex, h2⟩ e2 g2 w2 => h2 F σ H2 B2 p2 _ e2 fun u z M3 H3 B3 p3 ⟨k, f, n, ez, ho, hn, h3⟩ e3 g3 u3 => by
    subst ey; subst ex; subst ez
    have ek := rp_key u3
    subst ek
    obtain ⟨p, hp, rfl⟩ := w2
    have hp3 := g3.pre o p hp
    obtain ⟨kvs, hx, hl, hr⟩ := e3.mo o p _ hp3 ho
    have e4 := e3.put (o := .dK (putK kvs k v)) (m' := .dct (fun j => if j = k then some d else f j) (n + 1)) hp3 ho rfl ⟨_, upd_same, Nat.le_trans (len_put _ _ _) (Nat.succ_le_succ hl), fun j => put_ro hr (v1.go (g2.tr g3)) j⟩ (.inl rfl)
    exact ⟨p, _, rfl, DPut.k hx (Nat.lt_of_le_of_lt hl (Nat.lt_of_lt_of_le hn (by decide))), l.nx _ _ _ _ _ _ h3 e4 ((g1.tr g2).tr g3)⟩
/-- an object that is nobody's changes -/
theorem Env.over {F : Frm} {σ : L2.St} {H : Hp} {Γ : Sl} {M : List MO} {B : Hp} {ps : List Addr} (e : Env F σ H Γ M B ps) {p : Addr} {o : HO} (hB : B p = none) (h0 : F.H0 p = none) (np : ∀ (k : Nat), ps[k]? ≠ some p) : Env F σ (upd H p o) Γ M B ps := by
  refine ⟨fun a u h => ?_, e.b0, e.bn, fun a u h1 h2 => ?_, fun a h => ?_, e.len, fun j q h => ?_, fun j q x h1 h2 => ?_, e.own, e.sz, e.sl⟩
  · rw [upd_ne (fun z => by subst z; rw [hB] at h; cases h)]; exact e.ex a u h
  · rw [upd_ne (fun z => by subst z; rw [h0] at h1; cases h1)]; exact e.fr a u h1 h2
  · by_cases z : a = p
    · subst z; rw [upd_same]; exact fun z => by cases z
    · rw [upd_ne z]; exact e.vl a h
  · rw [upd_ne (fun z => np j (by rw [h, z]))]; exact e.al j q h
  · exact (e.mo j q x h1 h2).go (Ex.rfl' _) fun u hu => by rw [upd_ne (fun z => np j (by rw [h1, z]))]; exact hu
/-- what stands at p, known to none, while a part runs: it stands so behind it, and can be taken up -/
theorem Env.side {F : Frm} {σ σ' : L2.St} {H H' : Hp} {Γ Γ' : Sl} {M M' : List MO} {B B' : Hp} {ps ps' : List Addr} {p : Addr} {o : HO} (e : Env F σ H Γ M B ps) (hp : H p = some o) (hB : B p = none) (nS : ¬ F.S p) (np : ∀ (k : Nat), ps[k]? ≠ some p)
    (e' : Env (inner F H B M ps) σ' H' Γ' M' B' ps') : H' p = some o ∧ B' p = none := by
  refine ⟨e.kept e' hp nS np, e'.bn p ?_ hB⟩
  unfold inner
  simp only
  rw [if_neg]
  · rw [hp]; exact fun z => by cases z
  · rintro ⟨k, m, z, _⟩; exact np k z
/-- {k: e} -/
theorem ge_disp1 {P : PD} {tk tv : TE} (h : GE tk Γ M fun y M1 => ∃ k, y = .dat (kP k) ∧ GE tv Γ M1 fun z M2 => ∃ d, z = .dat d ∧ (∀ (k : Nat) m, M[k]? = some m → M2[k]? = some m) ∧ P (.ref M.length) (M ++ [.dct (fun j => if j = k then some d else none) 1])) : GE (tDisp [(tk, tv)]) Γ M P := fun F σ H B ps Q e q => by
  intro p hp
  have hB := e.freshB hp
  have h0 := e.fresh0 hp
  have np : ∀ (k : Nat), ps[k]? ≠ some p := fun k hk => e.al k p hk hp
  have nS : ¬ F.S p := fun s => e.vl p s hp
  have e0 : Env F σ (upd H p (.dK [])) Γ M B ps := e.over hB h0 np
  refine h _ σ _ B ps _ e0.zoom fun w y M1 H1 B1 p1 ⟨k, ey, h1⟩ e1 g1 w1 => h1 _ σ H1 B1 p1 _ e1 fun v z M2 H2 B2 p2 ⟨d, ez, hM, hP⟩ e2 g2 v2 => ?_
  subst ey; subst ez
  have ek := rp_key w1
  subst ek
  obtain ⟨hD, hB2⟩ := e0.side upd_same hB nS np e2
  have g12 := g1.tr g2
  have e4 : Env F σ H2 Γ M B2 ps := e.restore (e0.unzoom e2) g12 hM
  have pp : ∀ (f : Key → Option PyData) (kvs : List (Key × V)), kvs.length ≤ 1 → (∀ j, RO B2 (valV kvs j) (f j)) → Env F σ (upd H2 p (.dK kvs)) Γ (M ++ [.dct f 1]) B2 (ps ++ [p]) := fun f kvs hl hr =>
    (e4.over hB2 h0 np).attach (by rw [upd_same]; exact fun z => by cases z) hB2 h0 np ⟨kvs, upd_same, hl, hr⟩
  refine ⟨hD, [(k, v)], rfl, by show 1 ≤ 15; decide, ?_⟩
  refine q _ _ _ _ _ _ hP (pp _ (mergeK [] [(k, v)]) ?_ fun j => ?_) ⟨g12.ex, (Gro.app B ps p).pre⟩ ⟨p, by rw [← e.len]; exact last_at ps p, rfl⟩
  · show (putK [] k v).length ≤ 1
    exact len_put [] k v
  · show RO B2 (valV (putK [] k v) j) (if j = k then some d else none)
    exact put_ro (kvs := []) (f := fun _ => none) (fun _ => by show RO B2 none none; trivial) v2 j
/-! ### comprehensions -/
def wipeG (Γ : Sl) : List Nat → Sl
  | [] => Γ
  | v :: vs => (wipeG Γ vs).set v none
theorem wipeG_len (Γ : Sl) : ∀ vs : List Nat, (wipeG Γ vs).length = Γ.length
  | [] => rfl
  | v :: vs => by unfold wipeG; rw [List.length_set, wipeG_len Γ vs]
theorem wipeG_some {Γ : Sl} {i : Nat} {x : D} : ∀ {vs : List Nat}, (wipeG Γ vs)[i]? = some (some x) → Γ[i]? = some (some x) ∧ i ∉ vs
  | [], h => ⟨h, by simp⟩
  | v :: vs, h => by
    unfold wipeG at h
    by_cases hi : v = i
    · subst hi
      by_cases hv : v < (wipeG Γ vs).length
      · rw [List.getElem?_set_self hv] at h; cases h
      · rw [List.getElem?_eq_none (by simpa using hv)] at h; cases h
    · rw [List.getElem?_set_ne hi] at h
      obtain ⟨h1, h2⟩ := wipeG_some h
      exact ⟨h1, by simp only [List.mem_cons, not_or]; exact ⟨fun e => hi e.symm, h2⟩⟩
theorem wipe_at (σ : L2.St) (j : Nat) : ∀ vs : List Nat, (wipe σ vs)[j]? = if j ∈ vs then (if j < σ.length then some none else none) else σ[j]?
  | [] => by simp [wipe]
  | v :: vs => by
    have ih := wipe_at σ j vs
    unfold wipe
    by_cases hj : v = j
    · subst hj
      rw [if_pos List.mem_cons_self]
      by_cases hl : v < σ.length
      · rw [List.getElem?_set_self (by rw [wipe_length]; exact hl), if_pos hl]
      · rw [List.getElem?_eq_none (by rw [List.length_set, wipe_length]; omega), if_neg hl]
    · rw [List.getElem?_set_ne hj, ih]
      by_cases hm : j ∈ vs
      · rw [if_pos hm, if_pos (List.mem_cons_of_mem _ hm)]
      · rw [if_neg hm, if_neg (by simp only [List.mem_cons, not_or]; exact ⟨fun e => hj e.symm, hm⟩)]
theorem wipe_eq {σ σ2 : L2.St} {vs : List Nat} (hl : σ2.length = (wipe σ vs).length) (ho : ∀ j, j ∉ vs → σ2[j]? = (wipe σ vs)[j]?) : wipe σ2 vs = wipe σ vs := by
  apply List.ext_getElem?
  intro j
  rw [wipe_at σ2 j vs]
  by_cases hj : j ∈ vs
  · rw [if_pos hj, wipe_at σ j vs, if_pos hj, hl, wipe_length]
  · rw [if_neg hj, ho j hj]
theorem Env.wipe {F : Frm} {σ : L2.St} {H : Hp} {Γ : Sl} {M : List MO} {B : Hp} {ps : List Addr} (e : Env F σ H Γ M B ps) (vs : List Nat) : Env F (L2.wipe σ vs) H (wipeG Γ vs) M B ps := by
  refine e.slots (by rw [wipeG_len, wipe_length]; exact e.sz) fun i d h => ?_
  obtain ⟨h1, h2⟩ := wipeG_some h
  obtain ⟨v, h3, h4⟩ := e.sl i d h1
  exact ⟨v, by rw [wipe_at, if_neg h2]; exact h3, h4⟩
def PreM (M M' : List MO) : Prop := ∀ (k : Nat) m, M[k]? = some m → M'[k]? = some m
theorem PreM.rf (M : List MO) : PreM M M := fun _ _ h => h
theorem PreM.app (M N : List MO) : PreM M (M ++ N) := fun k m h => by
  rw [List.getElem?_append_left (List.getElem?_eq_some_iff.mp h).1]; exact h
/-- the value as data; a new own list too -/
def asDat (n : Nat) (M : List MO) : D → PyData → Prop
  | .dat d, x => x = d
  | .ref k, x => n ≤ k ∧ ∃ ds, M[k]? = some (.lst ds) ∧ x = .list ds
theorem ge_lc {P : PD} {wi : TI} {g : TG} {vs : List Nat} (h : GI wi Γ M fun need ds M1 => need M1 ∧ ds.length < 100000 ∧ ∃ J : Nat → List PyData → Prop, J 0 [] ∧ (∀ i acc, J i acc → acc.length ≤ i) ∧
      (∀ (i : Nat) d acc, ds[i]? = some d → J i acc → GG g vs (.dat d) (wipeG Γ vs) fun Γ2 => GT tt Γ2 M1 fun b M3 => (b = true → GE te Γ2 M3 fun y M4 => PreM M1 M4 ∧ ∃ x, asDat M1.length M4 y x ∧ J (i + 1) (acc ++ [x])) ∧ (b = false → PreM M1 M3 ∧ J (i + 1) acc)) ∧
      (∀ acc, J ds.length acc → P (.ref M1.length) (M1 ++ [.lst acc]))) : GE (tLc wi g tt te vs) Γ M P := fun F σ H B ps Q e q =>
  h F σ H B ps _ e fun It need ds M1 H1 B1 p1 ⟨hneed, hlen, J, j0, jl, js, je⟩ e1 g1 w => fun D hD => by
    have hB := e1.freshB hD
    have h0 := e1.fresh0 hD
    have np : ∀ (k : Nat), p1[k]? ≠ some D := fun k hk => e1.al k D hk hD
    have nS : ¬ F.S D := fun s => e1.vl D s hD
    have e2 : Env F σ (upd H1 D (.lst [])) Γ M1 B1 p1 := e1.over hB h0 np
    refine ⟨fun i m H' => m = ds.length - i ∧ i ≤ ds.length ∧ ∃ B' xs acc, Env F σ H' Γ M1 B' p1 ∧ Gro B1 B' p1 p1 ∧ B' D = none ∧ H' D = some (.lst xs) ∧ RpA B' xs acc ∧ J i acc, ⟨ds.length, rfl, Nat.zero_le _, B1, [], [], e2, Gro.rf _ _, hB, upd_same, .nil, j0⟩, ?_⟩
    rintro i m H' ⟨rfl, hi, B', xs, acc, e', g', hB', hD', hr, hJ⟩
    by_cases hlt : i < ds.length
    · have hd : ds[i]? = some ds[i] := List.getElem?_eq_getElem hlt
      obtain ⟨hgo, hyl⟩ := w.go F σ H' Γ M1 B' p1 e' g' hneed i _ hd
      refine .inr ⟨hgo, fun H2 => ∃ B2 xs acc, Env F σ H2 Γ M1 B2 p1 ∧ Gro B1 B2 p1 p1 ∧ B2 D = none ∧ H2 D = some (.lst xs) ∧ RpA B2 xs acc ∧ J (i + 1) acc, fun H2 z => ⟨ds.length - (i + 1), by omega, rfl, hlt, z⟩, fun x H3 hx => ?_⟩
      obtain ⟨B3, e3, b3, x3, r3⟩ := (w.go (inner F H' B' M1 p1) σ H' Γ M1 B' p1 e'.zoom g' hneed i _ hd).2 x H3 hx
      -- e3 is within the frame that keeps D
      have back : ∀ {σ' : L2.St} {H4 : Hp} {Γ' : Sl} {M4 : List MO} {B4 : Hp} {p4 : List Addr}, Env (inner F H' B' M1 p1) σ' H4 Γ' M4 B4 p4 → Gro B' B4 p1 p4 → PreM M1 M4 → Env F σ H4 Γ M1 B4 p1 ∧ H4 D = some (.lst xs) ∧ B4 D = none := fun {σ' H4 Γ' M4 B4 p4} e4 g4 hM => by
        obtain ⟨z1, z2⟩ := e'.side hD' hB' nS np e4
        exact ⟨e'.restore (e'.unzoom e4) g4 hM, z1, z2⟩
      refine js i _ acc hd hJ _ (L2.wipe σ vs) H3 B3 M1 p1 x _ (e3.wipe vs) r3 fun σ2 Γ2 k2 e4 hl4 ho4 => ?_
      refine ⟨wipe_eq hl4 ho4, k2 _ σ2 H3 B3 p1 _ e4 fun b M5 H5 B5 p5 hb e5 g5 => ?_⟩
      have gB : Gro B' B3 p1 p1 := ⟨b3, fun _ _ h => h⟩
      cases b with
      | false =>
        obtain ⟨hM, hJ2⟩ := hb.2 rfl
        obtain ⟨z1, z2, z3⟩ := back e5 (gB.tr g5) hM
        exact ⟨B5, xs, acc, z1, ⟨(g'.tr (gB.tr g5)).ex, fun _ _ h => h⟩, z3, z2, hr.mono (gB.tr g5).ex, hJ2⟩
      | true =>
        refine hb.1 rfl _ σ2 H5 B5 p5 _ e5 fun y dy M6 H6 B6 p6 ⟨hM, x6, hx6, hJ2⟩ e6 g6 hy => ?_
        have gA := (gB.tr g5).tr g6
        -- the value as data
        have fz : ∃ B7, Env F σ H6 Γ M1 B7 p1 ∧ Ex B6 B7 ∧ B7 D = none ∧ Rp B7 y x6 := by
          obtain ⟨z1, z2, z3⟩ := back e6 gA hM
          cases dy with
          | dat d0 =>
            have hx6 : x6 = d0 := hx6
            subst hx6
            exact ⟨B6, z1, Ex.rfl' _, z3, hy⟩
          | ref k =>
            obtain ⟨hk, es, hm, rfl⟩ := hx6
            obtain ⟨p, hp, rfl⟩ := hy
            obtain ⟨B7, e7, g7, r7⟩ := e6.freeze hp hm
            have hM7 : PreM M1 (M6.set k .dead) := fun j m hj => by
              have := (List.getElem?_eq_some_iff.mp hj).1
              rw [List.getElem?_set_ne (by omega)]
              exact hM j m hj
            obtain ⟨w1, w2, w3⟩ := back e7 (gA.tr g7) hM7
            exact ⟨B7, w1, g7.ex, w3, r7⟩
        obtain ⟨z1, z2, z3⟩ := back e6 gA hM
        obtain ⟨B7, e7, x7, d7, r7⟩ := fz
        have al := jl i acc hJ
        refine ⟨xs, z2, by rw [hr.len]; exact Nat.lt_of_lt_of_le (show acc.length < 100000 by omega) (by decide), B7, xs ++ [y], acc ++ [x6], ?_, ⟨(g'.ex.tr gA.ex).tr x7, fun _ _ h => h⟩, d7, upd_same, (hr.mono (gA.ex.tr x7)).app (.cons r7 .nil), hJ2⟩
        exact e7.over d7 h0 np
    · have e0 : i = ds.length := by omega
      subst e0
      refine .inl ⟨w.stop F σ H' Γ M1 B' p1 e' g' hneed, ?_⟩
      have e8 := e'.attach (m := .lst acc) (by rw [hD']; exact fun z => by cases z) hB' h0 np ⟨xs, hD', hr⟩
      exact q _ _ _ _ _ _ (je acc hJ) e8 (g1.tr (g'.tr (Gro.app B' p1 D))) ⟨D, by rw [← e1.len]; exact last_at p1 D, rfl⟩
end
end GL

/-! GL4: what a def promises over data, and its call. -/
namespace GL
open PySem PySem.Spec PyProof.Rows L2
inductive Ar where
  | dat (d : PyData) | bor (ds : List PyData)
inductive Rs where
  | dat (d : PyData) | new (m : MO)
def ArOk (H B : Hp) (so : Option Addr) (v : V) : Ar → Prop
  | .dat d => Rp B v d
  | .bor ds => ∃ a xs, v = .ref a ∧ so ≠ some a ∧ Rd H a (.lst xs) ∧ RpA B xs ds
def Three (H : Hp) (s : Addr) : Prop := ∃ a b c : Int, H s = some (.lst [.int a, .int b, .int c])
def RsOk (H H' B' : Hp) (v : V) : Rs → Prop
  | .dat d => Rp B' v d
  | .new m => ∃ p, v = .ref p ∧ H p = none ∧ B' p = none ∧ MOk H' B' p m ∧ owned m = true ∧ vola m = false
/-- the source, where there is one, is the first argument -/
def SrcOk (H B : Hp) (sf : Bool) (so : Option Addr) (vs us : List V) : Prop :=
  if sf = true then ∃ s, so = some s ∧ vs = .ref s :: us ∧ B s = none ∧ Three H s else so = none ∧ vs = us
structure After (H B H' B' : Hp) (so : Option Addr) : Prop where
  bb : Ex B B'
  bn : ∀ a, B' a ≠ none → B a ≠ none ∨ H a = none
  bh : Ex B' H'
  fr : ∀ a o, H a = some o → so ≠ some a → H' a = some o
  sr : ∀ s, so = some s → Three H' s
/-- the promise: arguments enc x with pre x; what comes back keeps post x -/
def GSp {T : Type} (sf : Bool) (enc : T → List Ar) (pre : T → Prop) (post : T → Rs → Prop) : Sp := fun vs H Q _ => ∃ (B : Hp) (so : Option Addr) (us : List V) (x : T),
  Ex B H ∧ SrcOk H B sf so vs us ∧ Paired (fun v a => ArOk H B so v a) us (enc x) ∧ pre x ∧ ∀ v H' B' r, post x r → After H B H' B' so → RsOk H H' B' v r → Q v H'
theorem gsp_len {T : Type} {sf : Bool} {enc : T → List Ar} {pre : T → Prop} {post : T → Rs → Prop} {n : Nat} (hn : ∀ x, (enc x).length = n) (vs : List V) (H : Hp) (Q : VK) (E : XK) (h : GSp sf enc pre post vs H Q E) : vs.length = (if sf then 1 else 0) + n := by
  obtain ⟨B, so, us, x, _, hs, hp, _⟩ := h
  have hl : us.length = n := (Paired.length hp).trans (hn x)
  unfold SrcOk at hs
  cases sf with
  | true =>
    rw [if_pos rfl] at hs
    obtain ⟨s, _, rfl, _⟩ := hs
    rw [List.length_cons, hl, if_pos rfl, Nat.add_comm]
  | false =>
    rw [if_neg Bool.false_ne_true] at hs
    rw [hs.2, hl, if_neg Bool.false_ne_true, Nat.zero_add]
def addA : Sl → List MO → List Ar → Sl
  | Γ, _, [] => Γ
  | Γ, M, .dat d :: r => addA (Γ ++ [some (.dat d)]) M r
  | Γ, M, .bor ds :: r => addA (Γ ++ [some (.ref M.length)]) (M ++ [.bor ds]) r
def addM : List MO → List Ar → List MO
  | M, [] => M
  | M, .dat _ :: r => addM M r
  | M, .bor ds :: r => addM (M ++ [.bor ds]) r
def ini (sf : Bool) (as : List Ar) (n : Nat) : Sl :=
  (if sf then addA [some (.ref 0)] [.src] as else addA [] [] as) ++ List.replicate n none
def inM (sf : Bool) (as : List Ar) : List MO := if sf then addM [.src] as else addM [] as
section
variable {F : Frm} {σ : L2.St} {H : Hp} {Γ : Sl} {M : List MO} {B : Hp} {ps : List Addr}
theorem Env.slot (e : Env F σ H Γ M B ps) {v : V} {d : D} (h : VD B ps v d) : Env F (σ ++ [some v]) H (Γ ++ [some d]) M B ps := by
  refine e.slots (by rw [List.length_append, List.length_append, e.sz] <;> rfl) fun i x hx => ?_
  by_cases hi : i < Γ.length
  · rw [List.getElem?_append_left hi] at hx
    rw [List.getElem?_append_left (by rw [← e.sz]; exact hi)]
    exact e.sl i x hx
  · have hl := (List.getElem?_eq_some_iff.mp hx).1
    rw [List.length_append, List.length_singleton] at hl
    have : i = Γ.length := by omega
    subst this
    rw [List.getElem?_append_right (Nat.le_refl _), Nat.sub_self] at hx
    cases (Option.some.inj hx)
    rw [e.sz, List.getElem?_append_right (Nat.le_refl _), Nat.sub_self]
    exact ⟨v, rfl, h⟩
theorem Env.pad (e : Env F σ H Γ M B ps) (n : Nat) : Env F (σ ++ List.replicate n none) H (Γ ++ List.replicate n none) M B ps := by
  refine e.slots (by rw [List.length_append, List.length_append, e.sz, List.length_replicate, List.length_replicate]) fun i x hx => ?_
  by_cases hi : i < Γ.length
  · rw [List.getElem?_append_left hi] at hx
    rw [List.getElem?_append_left (by rw [← e.sz]; exact hi)]
    exact e.sl i x hx
  · rw [List.getElem?_append_right (by omega), List.getElem?_replicate] at hx
    split at hx <;> cases hx
/-- an object that is only read -/
theorem Env.lend (e : Env F σ H Γ M B ps) {p : Addr} {ds : List PyData} (hm : MOk H B p (.bor ds)) (np : ∀ (k : Nat) m, ps[k]? = some p → M[k]? = some m → owned m = false) : Env F σ H Γ (M ++ [.bor ds]) B (ps ++ [p]) := by
  have g : Gro B B ps (ps ++ [p]) := Gro.app B ps p
  have at_ : ∀ (k : Nat) q, (ps ++ [p])[k]? = some q → ps[k]? = some q ∨ (k = ps.length ∧ q = p) := fun k q hk => by
    by_cases z : k < ps.length
    · rw [List.getElem?_append_left z] at hk; exact .inl hk
    · have hl := (List.getElem?_eq_some_iff.mp hk).1
      rw [List.length_append, List.length_singleton] at hl
      have : k = ps.length := by omega
      subst this
      rw [List.getElem?_append_right (Nat.le_refl _), Nat.sub_self] at hk
      exact .inr ⟨rfl, (Option.some.inj hk).symm⟩
  have atM : ∀ (k : Nat) m', k < M.length → (M ++ [.bor ds])[k]? = some m' → M[k]? = some m' := fun k m' z hk => by
    rw [List.getElem?_append_left z] at hk; exact hk
  refine ⟨e.ex, e.b0, e.bn, e.fr, e.vl, by rw [List.length_append, List.length_append, e.len] <;> rfl, fun k q hk => ?_, fun k q m' h1 h2 => ?_, fun k q m' h1 h2 h3 => ?_, e.sz, fun i d hd => ?_⟩
  · rcases at_ k q hk with z | ⟨_, z⟩
    · exact e.al k q z
    · subst z
      obtain ⟨xs, hx | ⟨o, hx⟩, _⟩ := hm <;> (rw [hx]; exact fun z => by cases z)
  · rcases at_ k q h1 with z | ⟨z1, z⟩
    · have hl := (List.getElem?_eq_some_iff.mp z).1
      rw [e.len] at hl
      exact e.mo k q m' z (atM k m' hl h2)
    · subst z1; subst z
      rw [e.len, List.getElem?_append_right (Nat.le_refl _), Nat.sub_self] at h2
      cases (Option.some.inj h2)
      exact hm
  · rcases at_ k q h1 with z | ⟨z1, z⟩
    · have hl := (List.getElem?_eq_some_iff.mp z).1
      rw [e.len] at hl
      have hm' := atM k m' hl h2
      obtain ⟨y1, y2, y3⟩ := e.own k q m' z hm' h3
      refine ⟨y1, y2, fun j hj => ?_⟩
      rcases at_ j q hj with w | ⟨_, w⟩
      · exact y3 j w
      · subst w
        rw [np k m' z hm'] at h3
        cases h3
    · subst z1; subst z
      rw [e.len, List.getElem?_append_right (Nat.le_refl _), Nat.sub_self] at h2
      cases (Option.some.inj h2)
      cases h3
  · obtain ⟨v, h1, h2⟩ := e.sl i d hd
    exact ⟨v, h1, h2.go g⟩
theorem Env.args (so : Option Addr) : ∀ (us : List V) (as : List Ar) (σ : L2.St) (Γ : Sl) (M : List MO) (ps : List Addr), Env F σ H Γ M B ps → (∀ (k : Nat) p m, ps[k]? = some p → M[k]? = some m → owned m = true → so = some p) →
    Paired (fun v a => ArOk H B so v a) us as → ∃ ps', Env F (σ ++ us.map some) H (addA Γ M as) (addM M as) B ps' ∧ (∀ (k : Nat) p, ps[k]? = some p → ps'[k]? = some p) ∧ (∀ (k : Nat) m, M[k]? = some m → (addM M as)[k]? = some m)
  | _, _, σ, Γ, M, ps, e, ho, .nil => ⟨ps, by rw [List.map_nil, List.append_nil]; exact e, fun _ _ h => h, fun _ _ h => h⟩
  | v :: us, a :: as, σ, Γ, M, ps, e, ho, .cons h r => by
    cases a with
    | dat d =>
      obtain ⟨ps', h1, h2, h3⟩ := Env.args so us as (σ ++ [some v]) (Γ ++ [some (.dat d)]) M ps (e.slot (d := .dat d) h) ho r
      refine ⟨ps', ?_, h2, h3⟩
      rw [List.map_cons, ← List.singleton_append, ← List.append_assoc]
      exact h1
    | bor ds =>
      obtain ⟨p, xs, rfl, hso, hx, hr⟩ := h
      have e1 := e.lend (p := p) (ds := ds) ⟨xs, hx, hr⟩ fun k m k1 k2 => by
        cases q : owned m with
        | false => rfl
        | true => exact absurd (ho k p m k1 k2 q) hso
      have e2 := e1.slot (v := .ref p) (d := .ref M.length) ⟨p, by rw [← e.len]; exact last_at ps p, rfl⟩
      obtain ⟨ps', h1, h2, h3⟩ := Env.args so us as _ _ _ _ e2 (fun k q m k1 k2 k3 => by
        by_cases z : k < M.length
        · rw [List.getElem?_append_left z] at k2
          rw [List.getElem?_append_left (by rw [e.len]; exact z)] at k1
          exact ho k q m k1 k2 k3
        · have hl := (List.getElem?_eq_some_iff.mp k2).1
          rw [List.length_append, List.length_singleton] at hl
          have : k = M.length := by omega
          subst this
          rw [List.getElem?_append_right (Nat.le_refl _), Nat.sub_self] at k2
          cases (Option.some.inj k2)
          cases k3) r
      refine ⟨ps', ?_, fun k q hk => h2 k q ((Gro.app B ps p).pre k q hk), fun k m hk => h3 k m (PreM.app M [.bor ds] k m hk)⟩
      rw [List.map_cons, ← List.singleton_append, ← List.append_assoc]
      exact h1
theorem env0 {S : Addr → Prop} (ex : Ex B H) (vl : ∀ a, S a → H a ≠ none) : Env ⟨H, B, S⟩ [] H [] [] B [] :=
  ⟨ex, Ex.rfl' B, fun _ _ h => h, fun _ _ h _ => h, vl, rfl, fun k p h => by simp at h, fun k p m h => by simp at h, fun k p m h => by simp at h, rfl, fun i d h => by simp at h⟩
theorem envS {s : Addr} (ex : Ex B H) (hB : B s = none) (h3 : Three H s) : Env ⟨H, B, fun a => a = s⟩ [some (.ref s)] H [some (.ref 0)] [.src] B [s] := by
  have hs : H s ≠ none := by
    obtain ⟨a, b, c, h⟩ := h3
    rw [h]; exact fun z => by cases z
  have one : ∀ (k : Nat) p, ([s] : List Addr)[k]? = some p → k = 0 ∧ p = s := fun k p h => by
    cases k with
    | zero => exact ⟨rfl, (Option.some.inj h).symm⟩
    | succ k => simp at h
  refine ⟨ex, Ex.rfl' B, fun _ _ h => h, fun _ _ h _ => h, fun a h => h ▸ hs, rfl, fun k p h => (one k p h).2 ▸ hs, fun k p m h1 h2 => ?_, fun k p m h1 h2 h3 => ?_, rfl, fun i d h => ?_⟩
  · obtain ⟨rfl, rfl⟩ := one k p h1
    cases h2
    exact h3
  · obtain ⟨rfl, rfl⟩ := one k p h1
    cases h2
    exact ⟨hB, .inr ⟨rfl, rfl⟩, fun j hj => (one j _ hj).1⟩
  · cases i with
    | zero => cases h; exact ⟨.ref s, rfl, s, rfl, rfl⟩
    | succ i => simp at h
end
/-- what a def hands back, as its caller is told -/
def RsM (M : List MO) (d : D) : Rs → Prop
  | .dat y => d = .dat y ∨ ∃ k ds, d = .ref k ∧ M[k]? = some (.lst ds) ∧ y = .list ds
  | .new m => ∃ k, d = .ref k ∧ M[k]? = some m ∧ owned m = true ∧ vola m = false
def RT (sf : Bool) (post : Rs → Prop) : PD := fun d M => (sf = true → M[0]? = some .src) ∧ ∃ r, post r ∧ RsM M d r
def REnd (sf : Bool) (post : Rs → Prop) : GEnd := { nx := fun _ M => RT sf post (.dat .none) M, rt := RT sf post }
/-- a body keeps its promise -/
theorem gsp_body {T : Type} {sf : Bool} {enc : T → List Ar} {pre : T → Prop} {post : T → Rs → Prop} {t : TS} {N : List Str} {n m : Nat} (hn : ∀ x, (enc x).length = n) (hN : N.length = (if sf then 1 else 0) + n + m)
    (h : ∀ x, pre x → GS t (ini sf (enc x) m) (inM sf (enc x)) (REnd sf (post x))) (vs : List V) (H : Hp) (Q : VK) (E : XK) (hp : GSp sf enc pre post vs H Q E) : t { nx := fun _ H' => Q .non H', rt := Q } (L2.start N vs) H := by
  have hl := gsp_len hn vs H Q E hp
  obtain ⟨B, so, us, x, ex, hs, ha, hpre, q⟩ := hp
  have fin : ∀ {F : Frm} {σ : L2.St} {Γ : Sl} {M : List MO} {ps0 : List Addr}, F.H0 = H → F.B0 = B → (∀ a, F.S a ↔ so = some a) → Env F σ H Γ M B ps0 → (sf = true → ∃ s, so = some s ∧ ps0[0]? = some s) → (so ≠ none → sf = true) →
      ∀ (Dn : Ends), Dn = { nx := fun _ H' => Q .non H', rt := Q } → Lnk F B ps0 (REnd sf (post x)) Dn := by
    intro F σ Γ M ps0 f1 f2 f3 e0 hsf hso Dn hD
    subst hD
    have core : ∀ v d σ H' Γ M B' ps', RT sf (post x) d M → Env F σ H' Γ M B' ps' → Gro B B' ps0 ps' → VD B' ps' v d → Q v H' := by
      intro v d σ' H' Γ' M' B' ps' hrt e g hv
      obtain ⟨h0, r, hr, hm⟩ := hrt
      have af : After H B H' B' so := by
        refine ⟨g.ex, fun a h => ?_, e.ex, fun a o h1 h2 => e.fr a o (by rw [f1]; exact h1) fun z => h2 ((f3 a).1 z), fun s hs' => ?_⟩
        · cases q1 : B a with
          | some o => exact .inl (fun z => by cases z)
          | none =>
            right
            cases q2 : H a with
            | none => rfl
            | some o => exact absurd (e.bn a (by rw [f1, q2]; exact fun z => by cases z) (by rw [f2]; exact q1)) h
        · have hf := hso (by rw [hs']; exact fun z => by cases z)
          obtain ⟨s', k1, k2⟩ := hsf hf
          rw [hs'] at k1
          cases k1
          exact e.mo 0 s _ (g.pre 0 s k2) (h0 hf)
      cases r with
      | dat y =>
        rcases hm with rfl | ⟨k, ds, rfl, hk, rfl⟩
        · exact q v H' B' _ hr af hv
        · obtain ⟨p, hp, rfl⟩ := hv
          obtain ⟨B2, e2, g2, r2⟩ := e.freeze hp hk
          refine q _ H' B2 _ hr ⟨af.bb.tr g2.ex, fun a h => ?_, e2.ex, af.fr, af.sr⟩ r2
          cases q1 : B a with
          | some o => exact .inl (fun z => by cases z)
          | none =>
            right
            cases q2 : H a with
            | none => rfl
            | some o => exact absurd (e2.bn a (by rw [f1, q2]; exact fun z => by cases z) (by rw [f2]; exact q1)) h
      | new m' =>
        obtain ⟨k, rfl, hk, ho, hv'⟩ := hm
        obtain ⟨p, hp, rfl⟩ := hv
        obtain ⟨w1, w2, w3⟩ := e.own k p m' hp hk ho
        refine q _ H' B' _ hr af ⟨p, rfl, ?_, w1, e.mo k p m' hp hk, ho, hv'⟩
        rcases w2 with w2 | w2
        · rw [f1] at w2; exact w2
        · rw [hv'] at w2; cases w2.2
    exact ⟨fun σ H' Γ M B' ps' h e g => core .non _ σ H' Γ M B' ps' h e g .non, core, fun _ _ _ _ _ _ h => h.elim, fun _ _ _ _ _ _ h => h.elim⟩
  have hst : L2.start N vs = vs.map some ++ List.replicate m none := by
    unfold L2.start
    rw [hl, hN, Nat.add_sub_cancel_left]
  rw [hst]
  have hx := h x hpre
  unfold SrcOk at hs
  cases sf with
  | true =>
    rw [if_pos rfl] at hs
    obtain ⟨s, rfl, rfl, hB, h3⟩ := hs
    obtain ⟨ps', e1, p1, _⟩ := Env.args (F := ⟨H, B, fun a => a = s⟩) (some s) us (enc x) _ _ _ _ (envS ex hB h3) (fun k p m' h1 h2 h3 => by
      cases k with
      | zero => exact h1
      | succ k => simp at h1) ha
    have e2 := e1.pad m
    refine hx _ _ H B ps' _ e2 (fin rfl rfl (fun a => ⟨fun z => by show some s = some a; rw [show a = s from z], fun z => (Option.some.inj z).symm⟩) e2 (fun _ => ⟨s, rfl, p1 0 s rfl⟩) (fun _ => rfl) _ rfl)
  | false =>
    rw [if_neg Bool.false_ne_true] at hs
    obtain ⟨rfl, rfl⟩ := hs
    obtain ⟨ps', e1, p1, _⟩ := Env.args (F := ⟨H, B, fun a => False⟩) none vs (enc x) _ _ _ _ (env0 ex fun _ z => z.elim) (fun k p m' h1 => by simp at h1) ha
    have e2 := e1.pad m
    exact hx _ _ H B ps' _ e2 (fin rfl rfl (fun a => ⟨fun (z : False) => z.elim, fun z => by cases z⟩) e2 (fun z => by cases z) (fun z => absurd rfl z) _ rfl)
/-- how what a caller knows meets what is asked -/
def ArM (M : List MO) (d : D) : Ar → Prop
  | .dat x => d = .dat x
  | .bor ds => asL M d = some ds
def RP (P : PD) (M : List MO) : Rs → Prop
  | .dat d => P (.dat d) M
  | .new m => P (.ref M.length) (M ++ [m])
section
variable {Γ : Sl} {M : List MO} {P : PD}
theorem arms {F : Frm} {σ : L2.St} {H : Hp} {B : Hp} {ps : List Addr} {so : Option Addr} (e : Env F σ H Γ M B ps) (hso : ∀ s, so = some s → ∃ k : Nat, ps[k]? = some s ∧ M[k]? = some MO.src) :
    ∀ (vs : List V) (ds : List D) (as : List Ar), VDs B ps vs ds → Paired (fun d a => ArM M d a) ds as → Paired (fun v a => ArOk H B so v a) vs as
  | _, _, _, .nil, .nil => .nil
  | v :: vs, d :: ds, a :: as, .cons h r, .cons h2 r2 => by
    refine .cons ?_ (arms e hso _ _ _ r r2)
    cases a with
    | dat x =>
      have h2 : d = .dat x := h2
      subst h2
      exact h
    | bor ds =>
      have h2 : asL M d = some ds := h2
      obtain ⟨a, xs, rfl, hx, hr⟩ := e.asL h h2
      refine ⟨a, xs, rfl, fun z => ?_, hx, hr⟩
      obtain ⟨k, k1, k2⟩ := hso a z
      obtain ⟨w1, _, w3⟩ := e.own k a _ k1 k2 rfl
      cases d with
      | dat y =>
        cases y with
        | list es =>
          cases h with
          | lst z1 z2 => rw [w1] at z1; cases z1
        | _ => cases h2
      | ref j =>
        obtain ⟨p, z1, z2⟩ := h
        cases z2
        have := w3 j z1
        subst this
        have h2 : asL M (.ref j) = some ds := h2
        unfold GL.asL at h2
        simp only [k2] at h2
        cases h2
theorem After.env {F : Frm} {σ : L2.St} {H H' : Hp} {B B' : Hp} {ps : List Addr} {so : Option Addr} (a : After H B H' B' so) (e : Env F σ H Γ M B ps) (hso : ∀ s, so = some s → ∃ k : Nat, ps[k]? = some s ∧ M[k]? = some MO.src) : Env F σ H' Γ M B' ps := by
  refine e.step a.bb a.bh a.bn (fun x o h k => a.fr x o h fun z => ?_) fun k p h1 h2 => ?_
  · obtain ⟨j, j1, j2⟩ := hso x z
    exact k j j1 j2
  · by_cases z : so = some p
    · exact a.sr p z
    · obtain ⟨x, y, w, h⟩ := e.mo k p _ h1 h2
      exact ⟨x, y, w, a.fr p _ h z⟩
theorem call_fin {F : Frm} {σ : L2.St} {H H' : Hp} {B B' : Hp} {ps : List Addr} {so : Option Addr} {v : V} {r : Rs} {Q : VK} (e : Env F σ H Γ M B ps) (a : After H B H' B' so) (e2 : Env F σ H' Γ M B' ps) (hr : RsOk H H' B' v r) (hP : RP P M r)
    (q : ∀ v d M' H' B' ps', P d M' → Env F σ H' Γ M' B' ps' → Gro B B' ps ps' → VD B' ps' v d → Q v H') : Q v H' := by
  cases r with
  | dat d => exact q v _ M H' B' ps hP e2 ⟨a.bb, fun _ _ h => h⟩ hr
  | new m =>
    obtain ⟨p, rfl, hp, hB, hm, _, _⟩ := hr
    have hH : H' p ≠ none := by
      cases m with
      | lst ds => obtain ⟨xs, h, _⟩ := hm; rw [h]; exact fun z => by cases z
      | dct f n => obtain ⟨xs, h, _⟩ := hm; rw [h]; exact fun z => by cases z
      | bor ds => obtain ⟨xs, h | ⟨o, h⟩, _⟩ := hm <;> (rw [h]; exact fun z => by cases z)
      | src => obtain ⟨x, y, z, h⟩ := hm; rw [h]; exact fun z => by cases z
      | sro x y z => have h : H' p = some _ := hm; rw [h]; exact fun z => by cases z
      | dead => rename_i h0 _; cases h0
    have e3 := e2.attach (m := m) hH hB (e.fresh0 hp) (fun k hk => e.al k p hk hp) hm
    exact q _ _ _ H' B' _ hP e3 ⟨a.bb, (Gro.app B' ps p).pre⟩ ⟨p, by rw [← e.len]; exact last_at ps p, rfl⟩
theorem ge_call {T : Type} {enc : T → List Ar} {pre : T → Prop} {post : T → Rs → Prop} {t : TA} {E : XK} (h : GA t Γ M fun ds M1 => ∃ x, Paired (fun d a => ArM M1 d a) ds (enc x) ∧ pre x ∧ ∀ r, post x r → RP P M1 r) : GE (tCall (GSp false enc pre post) [] E t) Γ M P := fun F σ H B ps Q e q =>
  h F σ H B ps _ e fun vs ds M1 H1 B1 p1 ⟨x, ha, hpre, hpost⟩ e1 g1 v1 => by
    have ns : ∀ s, (none : Option Addr) = some s → ∃ k : Nat, p1[k]? = some s ∧ M1[k]? = some MO.src := fun s z => by cases z
    rw [List.append_nil]
    refine ⟨B1, none, vs, x, e1.ex, ?_, arms e1 ns _ _ _ v1 ha, hpre, fun v H' B' r hr a hk => ?_⟩
    · unfold SrcOk
      rw [if_neg Bool.false_ne_true]
      exact ⟨rfl, rfl⟩
    · exact call_fin e1 a (a.env e1 ns) hk (hpost r hr) fun v d M' H' B' ps' z1 z2 z3 z4 => q v d M' H' B' ps' z1 z2 (g1.tr z3) z4
theorem ge_callS {T : Type} {enc : T → List Ar} {pre : T → Prop} {post : T → Rs → Prop} {t : TA} {E : XK} (h : GA t Γ M fun ds M1 => ∃ k ds' x, ds = .ref k :: ds' ∧ M1[k]? = some MO.src ∧ Paired (fun d a => ArM M1 d a) ds' (enc x) ∧ pre x ∧ ∀ r, post x r → RP P M1 r) : GE (tCall (GSp true enc pre post) [] E t) Γ M P := fun F σ H B ps Q e q =>
  h F σ H B ps _ e fun vs ds M1 H1 B1 p1 ⟨k, ds', x, ed, hk, ha, hpre, hpost⟩ e1 g1 v1 => by
    subst ed
    rw [List.append_nil]
    cases v1 with
    | cons hv hvs =>
      obtain ⟨s, hs, rfl⟩ := hv
      have ns : ∀ s', some s = some s' → ∃ k : Nat, p1[k]? = some s' ∧ M1[k]? = some MO.src := fun s' z => by cases z; exact ⟨k, hs, hk⟩
      refine ⟨B1, some s, _, x, e1.ex, ?_, arms e1 ns _ _ _ hvs ha, hpre, fun v H' B' r hr a hk => ?_⟩
      · unfold SrcOk
        rw [if_pos rfl]
        exact ⟨s, rfl, rfl, (e1.own k s _ hs hk rfl).1, e1.mo k s _ hs hk⟩
      · exact call_fin e1 a (a.env e1 ns) hk (hpost r hr) fun v d M' H' B' ps' z1 z2 z3 z4 => q v d M' H' B' ps' z1 z2 (g1.tr z3) z4
end
theorem rt_d {post : Rs → Prop} {x : PyData} {M : List MO} (h : post (.dat x)) : RT false post (.dat x) M := ⟨fun z => (by cases z), _, h, .inl rfl⟩
theorem rt_dS {post : Rs → Prop} {x : PyData} {M : List MO} (h : post (.dat x)) (h0 : M[0]? = some .src) : RT true post (.dat x) M := ⟨fun _ => h0, _, h, .inl rfl⟩
theorem rt_f {post : Rs → Prop} {k : Nat} {ds : List PyData} {M : List MO} (hk : M[k]? = some (.lst ds)) (h : post (.dat (.list ds))) : RT false post (.ref k) M := ⟨fun z => (by cases z), _, h, .inr ⟨k, ds, rfl, hk, rfl⟩⟩
theorem rt_n {post : Rs → Prop} {k : Nat} {m : MO} {M : List MO} (hk : M[k]? = some m) (h : post (.new m)) (ho : owned m = true := by rfl) (hv : vola m = false := by rfl) : RT false post (.ref k) M := ⟨fun z => (by cases z), _, h, k, rfl, hk, ho, hv⟩
theorem rt_nS {post : Rs → Prop} {k : Nat} {m : MO} {M : List MO} (hk : M[k]? = some m) (h : post (.new m)) (h0 : M[0]? = some .src) (ho : owned m = true := by rfl) (hv : vola m = false := by rfl) : RT true post (.ref k) M := ⟨fun _ => h0, _, h, k, rfl, hk, ho, hv⟩
theorem rp_d {P : PD} {M : List MO} {d : PyData} (h : P (.dat d) M) : RP P M (.dat d) := h
theorem rp_n {P : PD} {M : List MO} {m : MO} (h : P (.ref M.length) (M ++ [m])) : RP P M (.new m) := h
end GL

/-! GL5: more rules: three comparisons in a chain, sets of ints by a comprehension, isinstance, slices of tuples, zip, list(range(n)). -/
namespace GL
open PySem PySem.Spec PyProof.Rows L2
/-! ### a < b < c < d -/
def tChain3 (r r' r'' : R2) (ta tb tc td : TE) : TE := fun σ H Q => ta σ H fun x H1 => tb σ H1 fun y H2 => r x y H2 fun z H3 => ∃ k, z = .bl k ∧
  (if k = true then tc σ H3 fun w H4 => r' y w H4 fun z' H5 => ∃ k', z' = .bl k' ∧ (if k' = true then td σ H5 fun u H6 => r'' w u H6 Q else Q (.bl false) H5) else Q (.bl false) H3)
theorem pt_chain3 {X : Cx} {a b c d : Expr} {ta tb tc td : TE} {pos : Pos} {o1 o2 o3 : CmpOp} {r r' r'' : R2} (h1 : OpR X (compareOp o1) r) (h2 : OpR X (compareOp o2) r') (h3 : OpR X (compareOp o3) r'') (ha : PE X a ta) (hb : PE X b tb) (hc : PE X c tc) (hd : PE X d td)
    (hm : lastMarks [o1, o2, o3] [b, c, d] = false := by with_unfolding_all rfl) : PT X (.Compare a [o1, o2, o3] [b, c, d] pos) (tTest (tChain3 r r' r'' ta tb tc td)) := by
  refine ⟨fun pins s σ H Q I h => ?_⟩
  refine isTrue_chain (thn (ha.run pins s σ H _ I h) fun v1 s1 ⟨x, H1, I1, r1, q1⟩ => test_link (thn (hb.run pins s1 σ H1 _ I1 q1) fun v2 s2 ⟨y, H2, I2, r2, q2⟩ =>
    thn (h1 pins s2 σ H2 x y v1 v2 _ I2 r1 r2 q2) fun v3 s3 ⟨z, H3, I3, r3, k, e, q3⟩ => ?_)) hm
  subst e
  cases r3
  refine wpAny_truthy_bool ?_
  cases k with
  | false =>
    obtain ⟨k', e', q'⟩ := q3
    cases e'
    exact ite_ff ⟨H3, I3, q'⟩
  | true =>
    refine ite_tt (test_link (thn (hc.run pins s3 σ H3 _ I3 q3) fun v4 s4 ⟨w, H4, I4, r4, q4⟩ => thn (h2 pins s4 σ H4 y w v2 v4 _ I4 r2 r4 q4) fun v5 s5 ⟨z5, H5, I5, r5, k5, e5, q5⟩ => ?_))
    subst e5
    cases r5
    refine wpAny_truthy_bool ?_
    cases k5 with
    | false =>
      obtain ⟨k', e', q'⟩ := q5
      cases e'
      exact ite_ff ⟨H5, I5, q'⟩
    | true =>
      refine ite_tt (test_last (thn (hd.run pins s5 σ H5 _ I5 q5) fun v6 s6 ⟨u, H6, I6, r6, q6⟩ => thn (h3 pins s6 σ H6 w u v4 v6 _ I6 r4 r6 q6) fun v7 s7 ⟨z7, H7, I7, r7, k7, e7, q7⟩ => ?_))
      subst e7
      cases r7
      exact wpAny_truthy_bool ⟨H7, I7, q7⟩
section
variable {Γ : Sl} {M : List MO} {P : PD} {ta tb tc td te : TE} {K : PySem.W.Frag}
theorem ge_chain3 {r r' r'' : R2} (h : GE ta Γ M fun x M1 => GE tb Γ M1 fun y M2 => OG r x y Γ M2 fun z M3 => ∃ c, z = .dat (.bool c) ∧ (c = false → P (.dat (.bool false)) M3) ∧
      (c = true → GE tc Γ M3 fun w M4 => OG r' y w Γ M4 fun z' M5 => ∃ c', z' = .dat (.bool c') ∧ (c' = false → P (.dat (.bool false)) M5) ∧ (c' = true → GE td Γ M5 fun u M6 => OG r'' w u Γ M6 P))) : GE (tChain3 r r' r'' ta tb tc td) Γ M P := fun F σ H B ps Q e q =>
  h F σ H B ps _ e fun v x M1 H1 B1 p1 h1 e1 g1 v1 => h1 F σ H1 B1 p1 _ e1 fun w y M2 H2 B2 p2 h2 e2 g2 w2 =>
    h2 F σ H2 B2 p2 v w _ e2 (v1.go g2) w2 fun u d M3 H3 B3 p3 ⟨c, ed, k1, k2⟩ e3 g3 vd => by
      subst ed
      cases vd
      refine ⟨c, rfl, ?_⟩
      cases c with
      | false => exact q _ _ M3 H3 B3 p3 (k1 rfl) e3 ((g1.tr g2).tr g3) (.bl _)
      | true =>
        refine k2 rfl F σ H3 B3 p3 _ e3 fun x4 y4 M4 H4 B4 p4 h4 e4 g4 w4 => h4 F σ H4 B4 p4 w x4 _ e4 (w2.go (g3.tr g4)) w4 fun u d M5 H5 B5 p5 ⟨c', ed, k3, k4⟩ e5 g5 vd => ?_
        subst ed
        cases vd
        refine ⟨c', rfl, ?_⟩
        have gg := (((g1.tr g2).tr g3).tr g4).tr g5
        cases c' with
        | false => exact q _ _ M5 H5 B5 p5 (k3 rfl) e5 gg (.bl _)
        | true =>
          exact k4 rfl F σ H5 B5 p5 _ e5 fun x6 y6 M6 H6 B6 p6 h6 e6 g6 w6 => h6 F σ H6 B6 p6 x4 x6 Q e6 (w4.go (g5.tr g6)) w6 fun u d M7 H7 B7 p7 pd e7 g7 vd => q u d M7 H7 B7 p7 pd e7 ((gg.tr g6).tr g7) vd
/-! ### isinstance -/
def tyP : PyData → Value
  | .none => .type "NoneType" | .bool _ => .type "bool" | .int _ => .type "int" | .str _ => .type "str" | .list _ => .type "list" | .tuple _ => .type "tuple" | .dict _ => .type "dict"
theorem rp_ty {H : Hp} {v : V} {d : PyData} (h : Rp H v d) : TyX K H v (tyP d) := by
  cases h with
  | non => exact .base .non
  | bl b => exact .base (.bl b)
  | int i => exact .base (.int i)
  | str x => exact .base (.str x)
  | lst h1 h2 => exact .base (.lst h1)
  | tup h1 h2 => exact .base (.tup h1)
/-- a class by its name, as an argument -/
def tyIs (n : String) : D → Prop := fun _ => False
theorem ga_ty {n : String} {tr : TA} {r : RC} (k : ∀ (F : Frm) (σ : L2.St) (H B : Hp) (ps : List Addr) (Q : List V → Hp → Prop), Env F σ H Γ M B ps → (∀ vs M' H' B' ps', Env F σ H' Γ M' B' ps' → Gro B B' ps ps' → Q vs H') → True) : True := trivial
/-- isinstance(e, T) -/
theorem ge_isi {n : String} (h : GE te Γ M fun x M1 => ∃ d b, x = .dat d ∧ PySem.W.kitOne K (tyP d) (.type n) = some b ∧ P (.dat (.bool b)) M1) : GE (tCB (rIsi K) (tCons te (tCons (tC (.ty n)) tNil))) Γ M P := fun F σ H B ps Q e q =>
  h F σ H B ps _ e fun v x M1 H1 B1 p1 ⟨d, b, ex, hk, hP⟩ e1 g1 v1 => by
    subst ex
    exact ⟨v, .ty n, tyP d, .type n, b, rfl, .ty n, rp_ty (Rp.mono e1.ex v1), hk, q _ _ M1 H1 B1 p1 hP e1 g1 (.bl _)⟩
/-- isinstance(e, (T, U)) -/
theorem ge_isi2 {n m : String} (h : GE te Γ M fun x M1 => ∃ d b, x = .dat d ∧ PySem.W.kitAny K (tyP d) [.type n, .type m] = some b ∧ P (.dat (.bool b)) M1) : GE (tCB (rIsiT K) (tCons te (tCons (tTup (tCons (tC (.ty n)) (tCons (tC (.ty m)) tNil))) tNil))) Γ M P := fun F σ H B ps Q e q =>
  h F σ H B ps _ e fun v x M1 H1 B1 p1 ⟨d, b, ex, hk, hP⟩ e1 g1 v1 => by
    subst ex
    refine ⟨by show 2 ≤ sizeLine; decide, fun p hp => ?_⟩
    obtain ⟨e2, g2⟩ := e1.newT (o := .tup [.ty n, .ty m]) hp
    exact ⟨v, p, [.ty n, .ty m], tyP d, [.type n, .type m], b, rfl, upd_same, .cons (.ty n) (.cons (.ty m) .nil), rp_ty (Rp.mono (e1.ex.tr (Ex.new hp)) v1), hk, q _ _ M1 _ _ p1 hP e2 (g1.tr g2) (.bl _)⟩
/-! ### a slice of a tuple -/
theorem ge_slT {tl th : TO} (h : GE te Γ M fun x M1 => GO tl Γ M1 fun lo M2 => GO th Γ M2 fun hi M3 => ∃ ds, asT x = some ds ∧ P (.dat (.tuple (cutD ds lo hi))) M3) : GE (tSl (rSlA K) te tl th) Γ M P := fun F σ H B ps Q e q =>
  h F σ H B ps _ e fun v x M1 H1 B1 p1 h1 e1 g1 v1 => h1 F σ H1 B1 p1 _ e1 fun lo M2 H2 B2 p2 h2 e2 g2 => h2 F σ H2 B2 p2 _ e2 fun hi M3 H3 B3 p3 ⟨ds, hd, h3⟩ e3 g3 => by
    have v3 := v1.go (g2.tr g3)
    obtain ⟨a, xs, ev, ha, r⟩ := e3.asT v3 hd
    subst ev
    refine ⟨a, xs, rfl, SqT.of ha, fun z => ?_, fun _ l hl => ?_⟩
    · have hc : cutD ds lo hi = ds := by
        unfold cutD
        rw [r.len] at z
        rw [z.1, z.2, Nat.sub_zero, List.drop_zero, List.take_length]
      rw [hc] at h3
      cases x with
      | dat d =>
        cases d with
        | tuple es => cases hd; exact q _ _ M3 H3 B3 p3 h3 e3 ((g1.tr g2).tr g3) v3
        | _ => cases hd
      | ref k => cases hd
    · obtain ⟨e4, g4⟩ := e3.newT (o := .tup (cutV xs lo hi)) hl
      exact q _ _ M3 _ _ p3 h3 e4 (((g1.tr g2).tr g3).tr g4) (.tup upd_same ((cut_rp r lo hi).mono g4.ex))
/-! ### list(range(n)) -/
theorem ge_listRg1 (h : GE te Γ M fun x M1 => ∃ n : Int, x = .dat (.int n) ∧ 0 ≤ n ∧ n ≤ 100000 ∧ P (.ref M1.length) (M1 ++ [.lst (rngD 0 n.toNat)])) : GE (tLstRg (tRg1 te)) Γ M P := fun F σ H B ps Q e q =>
  h F σ H B ps _ e fun v x M1 H1 B1 p1 ⟨n, ex, h0, h1, hP⟩ e1 g1 v1 => by
    subst ex
    cases v1
    refine ⟨n, rfl, RgOk.of_le (Int.le_refl 0) (by omega) (by omega) h0, fun l hl => ?_⟩
    have hr : RpA B1 (rgV 0 n) (rngD 0 n.toNat) := by
      unfold rgV rngD
      rw [Int.sub_zero]
      have : ∀ l : List Nat, RpA B1 (l.map fun i => V.int (0 + (i : Nat))) (l.map fun i => .int (0 + (i : Nat))) := fun l => by
        induction l with
        | nil => exact .nil
        | cons i l ih => exact .cons (.int _) ih
      exact this _
    obtain ⟨e2, g2⟩ := e1.push (o := .lst (rgV 0 n)) (m := .lst (rngD 0 n.toNat)) hl ⟨_, upd_same, hr⟩
    exact q _ _ _ _ _ _ hP e2 (g1.tr g2) ⟨l, by rw [← e1.len]; exact last_at p1 l, rfl⟩
/-! ### zip of two tuples -/
def zipD (ds es : List PyData) : List PyData := (ds.zip es).map fun p => .tuple [p.1, p.2]
theorem zip_get {ds es : List PyData} {i : Nat} {d : PyData} (h : (zipD ds es)[i]? = some d) : ∃ x y, ds[i]? = some x ∧ es[i]? = some y ∧ d = .tuple [x, y] := by
  unfold zipD at h
  rw [List.getElem?_map] at h
  cases q : (ds.zip es)[i]? with
  | none => rw [q] at h; cases h
  | some p =>
    rw [q] at h
    obtain ⟨h1, h2⟩ := List.getElem?_zip_eq_some.mp q
    exact ⟨p.1, p.2, h1, h2, (Option.some.inj h).symm⟩
end
end GL

/-! GL6: a set of ints by a comprehension, sorted; zip of tuples. -/
namespace GL
open PySem PySem.Spec PyProof.Rows L2
/-- one more member -/
def addS (S : Int → Bool) (c : Int) : Int → Bool := fun j => S j || decide (j = c)
def tSci (w : World) (wi : TI) (g : TG) (tt : TT) (te : TE) (vs : List Nat) : TE := fun σ H Q => wi σ H fun J H1 => ∀ D, H1 D = none →
  ∃ W : Nat → Nat → Hp → Prop, (∃ m, W 0 m (upd H1 D (SetO w D (fun _ => false) 0))) ∧ ∀ i m H, W i m H →
    (J.stop i H ∧ Q (.ref D) H) ∨
    (J.go i H ∧ ∃ Nx : Hp → Prop, (∀ H', Nx H' → ∃ m', m' < m ∧ W (i + 1) m' H') ∧ ∀ x H', J.yld i H x H' →
      g x (wipe σ vs) H' fun σ2 H2 => wipe σ2 vs = wipe σ vs ∧ tt σ2 H2 fun b H3 =>
        if b = true then te σ2 H3 fun y H4 => ∃ (c : Int) (S : Int → Bool) (n : Nat), y = .int c ∧ H4 D = some (SetO w D S n) ∧ n + 1 < scanBound ∧ Nx (upd H4 D (SetO w D (addS S c) (if S c = true then n else n + 1)))
        else Nx H3)
section
variable {X : Cx}
/-- set.add of an int -/
theorem set_more {pl : List (Addr × Obj)} {τ : L2.St} {G : Hp} {t : Shared} {Er Go : Value → Shared → Prop} {a : Addr} {S : Int → Bool} {n : Nat} {c : Int} {tk : Tok}
    (J : Inv X pl τ G t) (ha : G a = some (SetO X.w a S n)) (small : n + 1 < scanBound) (go : ∀ t', Inv X pl τ (upd G a (SetO X.w a (addS S c) (if S c = true then n else n + 1))) t' → Go .none t') :
    wpAny (model X.prog X.w) X.A (call (.builtin "set.add") [.ref a, .int c tk]) Go Er t :=
  setR_add (setO_get J ha) small fun h1 same made => go _ (J.write (e := a) (t' := t.toks + 1) (by rw [ha]; exact True.intro) (Or.inl rfl) (fun d o hd ho => Eq.trans (same.2 d hd) ho)
    (by obtain ⟨o, _, _, _, z, _⟩ := id made; exact Exists.intro o z) (setO_new made))
section
variable {fp : List Addr} {tn : Nat → Heap → Prop} {τ : L2.St} {W : Nat → Nat → Hp → Prop}
/-- between two turns of a block: what stands -/
def Betw (Y : Cx) (fp : List Addr) (tn : Nat → Heap → Prop) (τ : L2.St) (W : Nat → Nat → Hp → Prop) (n : Nat) (t : Shared) : Prop :=
  ∃ (k : Nat) (G : Hp), Inv Y [] τ G t ∧ tn k t.heap ∧ W k n G ∧ ∀ d ∈ fp, G d = none
/-- the block's iterator keeps out of the way -/
theorem aside {Y : Cx} {G : Hp} {t : Shared} (J : Inv Y [] τ G t) (hY : Y.ex = fp) (hp : Y.pn = []) (h0 : ∀ d ∈ fp, G d = none) : ∀ d ∈ fp, FpOk Y [] G d := fun d hd => by
  have z : d ∈ Y.ex := hY ▸ hd
  obtain ⟨q1, q2⟩ := J.ok.exf d z
  exact ⟨h0 d hd, q1, J.ok.exfs d z, Or.inl z, q2, fun p m => by rw [hp] at m; cases m⟩
/-- a turn is over: its pins are let go -/
theorem over {Y : Cx} {P : Program} {w : World} {K : PySem.W.Frag} {tg : Expr} {It : It} {it : Addr} {hp : Heap} {vs : List Nat} {ρ τ8 : L2.St} {G : Hp} {t : Shared} {k m : Nat} (TT : Turn P w K tg It fp it tn) (at1 : tn k hp)
    (J : Inv Y ([] ++ pinsAt fp hp) τ8 G t) (same : wipe τ8 vs = wipe ρ vs) (hW : W k m G) : Betw Y fp tn (wipe ρ vs) W m t := by
  have held : ∀ d, d ∈ fp → ∀ o, hp.get? d = some o → t.heap.get? d = some o ∧ G d = none := by
    intro d hd o ho
    obtain ⟨z1, z2, _⟩ := J.pin (d, o) (List.mem_append_right _ (List.mem_append_right _ (mem_pinsAt hd ho)))
    exact And.intro z1 z2
  refine ⟨k, G, Inv.weak (Inv.unpinned (pins := []) J) ?_ ?_, TT.keep k hp t.heap at1 fun d hd o ho => And.left (held d hd o ho), hW, ?_⟩
  · rw [← same]; exact wipe_length ..
  · intro i v z
    rw [← same] at z
    exact And.left (wipe_some z)
  · intro d hd
    obtain ⟨o, ho, _⟩ := TT.obj k hp at1 d hd
    exact And.right (held d hd o ho)
end
theorem sci_core {pl : List (Addr × Obj)} {t0 : Shared} {ρ : L2.St} {G0 : Hp} {Q : VK} {elt tg iter : Expr} {ifs : List Expr} {sc : Scope} {own : List (PySem.Str × Nat)} {p1 p2 : Pos} {wi : TI} {g : TG} {tt : TT} {te : TE} {use : Option (Value → Sem Unit)} {Z : Value → Shared → Prop}
    (calm : X.calm = true) (nd : X.N.Nodup) (J0 : Inv X pl ρ G0 t0) (fromIt : PI X tg iter wi) (bk : BlkOk X.N X.env.scope sc own)
    (ruleG : ∀ (t : Shared) (G : Hp) (c : Addr) (cl : List (PySem.Str × Addr)) (fp : List Addr), PG (X.blk t G sc (compEnvC sc cl c X.env) fp) tg g)
    (ruleT : ∀ (t : Shared) (G : Hp) (c : Addr) (cl : List (PySem.Str × Addr)) (fp : List Addr), PTs (X.blk t G sc (compEnvC sc cl c X.env) fp) ifs tt)
    (ruleE : ∀ (t : Shared) (G : Hp) (c : Addr) (cl : List (PySem.Str × Addr)) (fp : List Addr), PE (X.blk t G sc (compEnvC sc cl c X.env) fp) elt te)
    (plain : ∀ y, foldedSetIterable iter X.env y = pure y) (says : tSci X.w wi g tt te (own.map (·.2)) ρ G0 Q)
    (out : ∀ a c t m G, Inv X pl ρ G t → Q (.ref a) G → t.heap.Ns c m → FpOk X pl G c → compPost (model X.prog X.w) X.A X.xe use Z (.ref a) c (.ok .next) t) :
    wpAny (model X.prog X.w) X.A (comprehension (.SetComp elt [⟨tg, iter, ifs, 0⟩] sc p1) sc X.env p2 (newSet (.type "set")) false (eval iter X.env) use) Z X.xe t0 := by
  have known : ∀ y ∈ sc.names, y.2 = .free → ∃ c, X.env.cells.lookup y.1 = some c := by
    intro y m z
    rcases bk.free y m z with q | q
    · exact J0.ok.has _ (Or.inl q)
    · exact J0.ok.has _ (Or.inr q)
  refine wpAny_comprehension_free (use := use) rfl plain (closure_ok known) bk.kind (fun y m z => by rw [bk.uniq y m, z]) ?_
  refine thn (fromIt.run pl t0 ρ G0 _ J0 says) fun v1 t1 q1 => thn q1 ?_
  rintro v2 t2 ⟨it, fp, tn, Jt, G2, rfl, J2, TT, at0, quiet, ask⟩
  refine PpSet.newSet_ok (newEnv_comp ?_)
  generalize eA : t2.heap.objs.size = A
  have freshA : G2 A = none := J2.hok.fresh (by rw [eA]; exact Nat.le_refl A)
  obtain ⟨W, ⟨n0, begin0⟩, turnW⟩ := ask A freshA
  generalize eT : ({ t2 with heap := t2.heap.push { cls := .type "set", dict := none, data := .set #[] 0 (.fresh 0 0 (!X.w.params.followText "set-order")) } } : Shared) = t3
  generalize eG : upd G2 A (SetO X.w A (fun _ => false) 0) = G3 at begin0
  have hp3 : t3.heap = t2.heap.push { cls := .type "set", dict := none, data := .set #[] 0 (.fresh 0 0 (!X.w.params.followText "set-order")) } := by rw [← eT]
  have kept3 : ∀ d o, t2.heap.get? d = some o → t3.heap.get? d = some o := fun d o z => by rw [hp3]; exact Heap.get?_push_of_some _ z
  have J3 : Inv X pl ρ G3 t3 := by
    subst eG; subst eT; subst eA
    exact J2.laid (t' := t2.toks) (fun d o z => Heap.get?_push_of_some _ z) (Nat.le_refl _) (setO_new (setR_fresh X.w))
  have quiet3 : ∀ d ∈ fp, FpOk X pl G3 d ∧ d < t3.heap.objs.size := by
    intro d hd
    obtain ⟨o, ho, _⟩ := TT.obj 0 _ at0 d hd
    have below := Heap.lt_size ho
    have ne : d ≠ A := fun z => by rw [← eA] at z; exact Nat.ne_of_lt below z
    obtain ⟨y1, y2⟩ := quiet d hd
    exact ⟨⟨by rw [← eG, upd_ne ne]; exact y1, y2⟩, by rw [hp3, Heap.size_push]; exact Nat.lt_succ_of_lt below⟩
  have at3 : tn 0 t3.heap := TT.keep 0 _ _ at0 fun d _ o z => kept3 d o z
  have J4 := block_start J3 bk nd quiet3
  refine (?_ : codeAny _ _ (.compStart (.SetComp elt [⟨tg, iter, ifs, 0⟩] sc p1) 0 (.ref it) (.ref A) (compEnvC sc (cellsFrom (t3.heap.objs.size + 1) sc.names (cloFrom X.env.cells sc.names [])) t3.heap.objs.size X.env))
    (compPost (model X.prog X.w) X.A X.xe use Z (.ref A) t3.heap.objs.size) { t3 with heap := pushCells (t3.heap.push { cls := .type "dict", data := .dict #[] }) sc.names })
  have rG := ruleG t3 G3 t3.heap.objs.size (cellsFrom (t3.heap.objs.size + 1) sc.names (cloFrom X.env.cells sc.names [])) fp
  have rT := ruleT t3 G3 t3.heap.objs.size (cellsFrom (t3.heap.objs.size + 1) sc.names (cloFrom X.env.cells sc.names [])) fp
  have rE := ruleE t3 G3 t3.heap.objs.size (cellsFrom (t3.heap.objs.size + 1) sc.names (cloFrom X.env.cells sc.names [])) fp
  have locs : (compEnvC sc (cellsFrom (t3.heap.objs.size + 1) sc.names (cloFrom X.env.cells sc.names [])) t3.heap.objs.size X.env).locals = t3.heap.objs.size := rfl
  generalize compEnvC sc (cellsFrom (t3.heap.objs.size + 1) sc.names (cloFrom X.env.cells sc.names [])) t3.heap.objs.size X.env = ce at J4 rG rT rE locs ⊢
  have at4 : tn 0 (pushCells (t3.heap.push { cls := .type "dict", data := .dict #[] }) sc.names) := TT.keep 0 _ _ at3 fun d _ o z => pushCells_keeps _ _ _ _ (Heap.get?_push_of_some _ z)
  generalize eT4 : ({ t3 with heap := pushCells (t3.heap.push { cls := .type "dict", data := .dict #[] }) sc.names } : Shared) = t4 at J4 ⊢
  have at4 : tn 0 t4.heap := by rw [← eT4]; exact at4
  have loop : codeAny (model X.prog X.w) X.A (.compLoop (.SetComp elt [⟨tg, iter, ifs, 0⟩] sc p1) 0 (.ref it) (.ref A) ce) (compPost (model X.prog X.w) X.A X.xe use Z (.ref A) t3.heap.objs.size) t4 := by
    refine PpSet.compLoopS_any (Betw (X.blk t3 G3 sc ce fp) fp tn (wipe ρ (own.map (·.2))) W) ?_ n0 ⟨0, G3, J4, at4, begin0, fun d hd => ((quiet3 d hd).1).1⟩
    rintro n t5 ⟨k, G5, J5, at5, w5, h5⟩
    have side5 := aside (fp := fp) J5 rfl rfl h5
    rcases turnW k n G5 w5 with ⟨halt, fin⟩ | ⟨more, Nx, nxW, each⟩
    · refine thnF (TT.done (X.blk t3 G3 sc ce fp) rfl rfl rfl calm k [] t5 _ G5 _ J5 side5 at5 halt) ?_
      rintro _ t6 ⟨rfl, J6⟩
      have J7 : Inv X pl ρ G5 t6 := by
        refine J3.call' (ch := fp) J6.os J6.base J6.hok J6.bare fun d hd => ?_
        obtain ⟨_, y1, _, y3, y4, y5⟩ := (quiet3 d hd).1
        exact ⟨y3, y1, y4, y5⟩
      have gone : G5 t3.heap.objs.size = none := by
        have z := J6.free
        change G5 ce.locals = none at z
        rwa [locs] at z
      obtain ⟨m, hn, _⟩ := J6.loc
      change t6.heap.Ns ce.locals m at hn
      rw [locs] at hn
      exact out A _ t6 m G5 J7 fin hn (J3.fpOk (Nat.le_refl _) gone)
    · refine thnF (TT.item (X.blk t3 G3 sc ce fp) rfl rfl rfl calm k [] t5 _ G5 _ J5 side5 at5 more) ?_
      rintro _ t6 ⟨u, rfl, q6⟩
      refine thnF q6 ?_
      rintro _ t7 ⟨x, G7, J7, rx, got, at7, h7⟩
      refine thnF (rG.run _ t7 _ G7 x u _ (J7.pinned (aside (fp := fp) J7 rfl rfl h7) (TT.obj _ _ at7)) rx (each x G7 got)) ?_
      rintro _ t8 ⟨τ8, G8, J8, same8, q8⟩
      refine thnF (rT.run _ t8 τ8 G8 _ J8 q8) ?_
      rintro b t9 ⟨G9, J9, q9⟩
      cases b with
      | false =>
        obtain ⟨m, lt, w'⟩ := nxW G9 (by simpa using q9)
        exact ⟨m, lt, over TT at7 J9 same8 w'⟩
      | true =>
        have q9 := (if_pos rfl).mp q9
        refine thnF (rE.run _ t9 τ8 G9 _ J9 q9) ?_
        rintro z t10 ⟨y, G10, J10, rz, c, S, n1, rfl, hA, small, nx⟩
        obtain ⟨tk, rfl⟩ : ∃ tk, z = Value.int c tk := rz
        refine set_more (X := X.blk t3 G3 sc ce fp) J10 hA small fun t11 J11 => ?_
        obtain ⟨m, lt, w'⟩ := nxW _ nx
        exact ⟨m, lt, over TT at7 J11 same8 w'⟩
  exact PpSet.codeAny_compStart_set loop (TT.self X.A 0 t4 _ _ at4 loop)
theorem pe_sci {elt tg iter : Expr} {ifs : List Expr} {scope : Scope} {own : List (PySem.Str × Nat)} {pos : Pos} {wi : TI} {g : TG} {tt : TT} {te : TE}
    (hc : X.calm = true) (hN : X.N.Nodup) (hi : PI X tg iter wi) (ok : BlkOk X.N X.env.scope scope own)
    (hg : ∀ (s : Shared) (H : Hp) (C : Addr) (cl : List (PySem.Str × Addr)) (fp : List Addr), PG (X.blk s H scope (compEnvC scope cl C X.env) fp) tg g)
    (ht : ∀ (s : Shared) (H : Hp) (C : Addr) (cl : List (PySem.Str × Addr)) (fp : List Addr), PTs (X.blk s H scope (compEnvC scope cl C X.env) fp) ifs tt)
    (he : ∀ (s : Shared) (H : Hp) (C : Addr) (cl : List (PySem.Str × Addr)) (fp : List Addr), PE (X.blk s H scope (compEnvC scope cl C X.env) fp) elt te)
    (hs : ∀ x, foldedSetIterable iter X.env x = pure x := by intro _; rfl) : PE X (.SetComp elt [⟨tg, iter, ifs, 0⟩] scope pos) (tSci X.w wi g tt te (own.map (·.2))) := by
  refine ⟨fun pins s σ H Q I h => ?_⟩
  rw [PpSet.eval_SetComp]
  refine sci_core hc hN I hi ok hg ht he hs h fun D C s' m H' I' q hn f => ⟨m, hn, fun h'' sb => ?_⟩
  obtain ⟨f0, f1, f2, f3, f4, f5⟩ := f
  exact ⟨.ref D, H', I'.turned (t' := s'.toks) (fun b o hb e => (sb.2 b hb).trans e) f0 f1 f3 f4 f5, rfl, q⟩
end
section
variable {Γ : Sl} {M : List MO} {P : PD} {K : PySem.W.Frag} {w : World}
/-- sorted({e for x in xs}), e ints -/
theorem ge_sortedSet {wi : TI} {g : TG} {tt : TT} {te : TE} {vs : List Nat} (h : GI wi Γ M fun need ds M1 => need M1 ∧ ds.length < 60 ∧ ∃ f : Nat → Int,
      (∀ (i : Nat) d, ds[i]? = some d → GG g vs (.dat d) (wipeG Γ vs) fun Γ2 => GT tt Γ2 M1 fun b M3 => b = true ∧ M3 = M1 ∧ GE te Γ2 M1 fun y M4 => M4 = M1 ∧ y = .dat (.int (f i))) ∧
      ∀ ns : List Int, ns.Pairwise (· < ·) → (∀ k, k ∈ ns ↔ ∃ i, i < ds.length ∧ f i = k) → P (.ref M1.length) (M1 ++ [.lst (ns.map .int)])) :
    GE (tCB (rSortedSet w) (tCons (tSci w wi g tt te vs) tNil)) Γ M P := fun F σ H B ps Q e q =>
  h F σ H B ps _ e fun It need ds M1 H1 B1 p1 ⟨hneed, hlen, f, js, je⟩ e1 g1 wk => fun D hD => by
    have hB := e1.freshB hD
    have h0 := e1.fresh0 hD
    have np : ∀ (k : Nat), p1[k]? ≠ some D := fun k hk => e1.al k D hk hD
    have nS : ¬ F.S D := fun s => e1.vl D s hD
    refine ⟨fun i m H' => m = ds.length - i ∧ i ≤ ds.length ∧ ∃ B' S n, Env F σ H' Γ M1 B' p1 ∧ Gro B1 B' p1 p1 ∧ B' D = none ∧ H' D = some (SetO w D S n) ∧ n ≤ i ∧ ∀ k, S k = true ↔ ∃ j, j < i ∧ f j = k,
      ⟨ds.length, rfl, Nat.zero_le _, B1, _, 0, e1.over hB h0 np, Gro.rf _ _, hB, upd_same, Nat.le_refl _, fun k => ⟨fun z => (by cases z), fun ⟨j, hj, _⟩ => absurd hj (Nat.not_lt_zero j)⟩⟩, ?_⟩
    rintro i m H' ⟨rfl, hi, B', S, n, e', g', hB', hD', hn, hS⟩
    by_cases hlt : i < ds.length
    · have hd : ds[i]? = some ds[i] := List.getElem?_eq_getElem hlt
      obtain ⟨hgo, _⟩ := wk.go F σ H' Γ M1 B' p1 e' g' hneed i _ hd
      refine .inr ⟨hgo, fun H2 => ∃ B2 S n, Env F σ H2 Γ M1 B2 p1 ∧ Gro B1 B2 p1 p1 ∧ B2 D = none ∧ H2 D = some (SetO w D S n) ∧ n ≤ i + 1 ∧ ∀ k, S k = true ↔ ∃ j, j < i + 1 ∧ f j = k, fun H2 z => ⟨ds.length - (i + 1), by omega, rfl, hlt, z⟩, fun x H3 hx => ?_⟩
      obtain ⟨B3, e3, b3, x3, r3⟩ := (wk.go (inner F H' B' M1 p1) σ H' Γ M1 B' p1 e'.zoom g' hneed i _ hd).2 x H3 hx
      refine js i _ hd _ (L2.wipe σ vs) H3 B3 M1 p1 x _ (e3.wipe vs) r3 fun σ2 Γ2 k2 e4 hl4 ho4 => ?_
      refine ⟨wipe_eq hl4 ho4, k2 _ σ2 H3 B3 p1 _ e4 fun b M5 H5 B5 p5 ⟨hb, hM, k5⟩ e5 g5 => ?_⟩
      subst hb; subst hM
      show te σ2 H5 _
      refine k5 _ σ2 H5 B5 p5 _ e5 fun y dy M6 H6 B6 p6 ⟨hM, hy⟩ e6 g6 hv => ?_
      subst hM; subst hy
      cases hv
      obtain ⟨z1, z2⟩ := e'.side hD' hB' nS np e6
      have gA : Gro B' B6 p1 p6 := ((Gro.mk b3 fun _ _ h => h).tr g5).tr g6
      have e7 : Env F σ H6 Γ M6 B6 p1 := e'.restore (e'.unzoom e6) gA fun _ _ h => h
      refine ⟨f i, S, n, rfl, z1, Nat.lt_of_le_of_lt (show n + 1 ≤ 100 by omega) (by decide), B6, _, _, e7.over z2 h0 np, ⟨g'.ex.tr gA.ex, fun _ _ h => h⟩, z2, upd_same, ?_, fun k => ?_⟩
      · split <;> omega
      · unfold addS
        rw [Bool.or_eq_true, hS k, decide_eq_true_eq]
        constructor
        · rintro (⟨j, hj, hf⟩ | hk)
          · exact ⟨j, by omega, hf⟩
          · exact ⟨i, by omega, hk.symm⟩
        · rintro ⟨j, hj, hf⟩
          by_cases hji : j = i
          · subst hji; exact .inr hf.symm
          · exact .inl ⟨j, by omega, hf⟩
    · have e0 : i = ds.length := by omega
      subst e0
      refine .inl ⟨wk.stop F σ H' Γ M1 B' p1 e' g' hneed, D, S, n, rfl, hD', by omega, fun ns l hp hm hl hl0 => ?_⟩
      obtain ⟨e2, g2⟩ := e'.push (o := .lst (ns.map V.int)) (m := .lst (ns.map .int)) hl0 ⟨_, upd_same, RpA.ofInts ns⟩
      exact q _ _ _ _ _ _ (je ns hp fun k => (hm k).trans (hS k)) e2 (g1.tr (g'.tr g2)) ⟨l, by rw [← e1.len]; exact last_at p1 l, rfl⟩
/-- zip of two tuples of one length -/
theorem gi_zipT {R : PI'} {t : TA} (h : GA t Γ M fun es M1 => ∃ x y ds es', es = [x, y] ∧ asT x = some ds ∧ asT y = some es' ∧ ds.length = es'.length ∧ R (fun _ => True) (zipD ds es') M1) : GI (RZ.iZipA K t) Γ M R := fun F σ H B ps Q e q =>
  h F σ H B ps _ e fun vs es M1 H1 B1 p1 ⟨x, y, ds, es', ee, hx, hy, hl, h1⟩ e1 g1 v1 => by
    subst ee
    obtain ⟨v, u, rfl, hv, hu⟩ := vds2 v1
    obtain ⟨a, xs, ev, ha, r⟩ := e1.asT hv hx
    obtain ⟨b, ys, eu, hb, r'⟩ := e1.asT hu hy
    refine ⟨a, b, xs, ys, by rw [ev, eu], .inr ⟨SqT.of ha, SqT.of hb, q _ _ _ M1 H1 B1 p1 h1 e1 g1 ⟨fun F' σ' H' Γ' M' B2 p2 e2 g2 hn i d hi => ?_, fun F' σ' H' Γ' M' B2 p2 e2 g2 hn => ?_⟩⟩⟩
    · obtain ⟨x0, y0, hx0, hy0, rfl⟩ := zip_get hi
      obtain ⟨a', xs', ev', ha', ra⟩ := e2.asT (hv.go g2) hx
      obtain ⟨b', ys', eu', hb', rb⟩ := e2.asT (hu.go g2) hy
      rw [ev] at ev'
      rw [eu] at eu'
      cases ev'
      cases eu'
      obtain ⟨vx, hvx, rx⟩ := ra.get hx0
      obtain ⟨vy, hvy, ry⟩ := rb.get hy0
      refine ⟨⟨xs', ys', vx, vy, SqT.of ha', SqT.of hb', hvx, hvy⟩, fun x' H3 hyl => ?_⟩
      obtain ⟨T, x1, y1, rfl, nT, rfl, fx, fy⟩ := hyl
      have ex : x1 = vx := Option.some.inj ((fx xs' (SqT.of ha')).symm.trans hvx)
      have ey : y1 = vy := Option.some.inj ((fy ys' (SqT.of hb')).symm.trans hvy)
      rw [ex, ey]
      obtain ⟨e3, g3⟩ := e2.newT (o := .tup [vx, vy]) nT
      exact ⟨_, e3, g3.ex, Ex.new nT, .tup upd_same (.cons (rx.mono g3.ex) (.cons (ry.mono g3.ex) .nil))⟩
    · obtain ⟨a', xs', ev', ha', ra⟩ := e2.asT (hv.go g2) hx
      obtain ⟨b', ys', eu', hb', rb⟩ := e2.asT (hu.go g2) hy
      rw [ev] at ev'
      rw [eu] at eu'
      cases ev'
      cases eu'
      refine ⟨xs', ys', SqT.of ha', SqT.of hb', .inl ?_⟩
      unfold zipD
      rw [List.length_map, List.length_zip, ra.len]
      omega
end
end GL

/-! GL7: the rules whose readings speak of the written part, with that part named. -/
namespace GL
open PySem PySem.Spec PyProof.Rows L2
section
variable {X : Cx} {K : PySem.W.Frag}
theorem k_in (h : X.K = K) : OpR X (compareOp .In) (rIn K false) := h ▸ op_in_seq
theorem k_notin (h : X.K = K) : OpR X (compareOp .NotIn) (rIn K true) := h ▸ op_notIn_seq
theorem k_eqD (h : X.K = K) (hu : X.A.units + 64 < cLine) : OpR X (compareOp .Eq) (rEqD K) := h ▸ op_eqD hu
theorem k_neD (h : X.K = K) (hu : X.A.units + 64 < cLine) : OpR X (compareOp .NotEq) (rNeD K) := h ▸ op_neD hu
theorem k_ixL (h : X.K = K) : IxR X (rIxL K) := h ▸ ix_list
theorem k_ixT (h : X.K = K) : IxR X (rIxT K) := h ▸ ix_tup
theorem k_slL (h : X.K = K) : SlR X (rSlL K) := h ▸ sl_list
theorem k_slT (h : X.K = K) : SlR X (rSlA K) := h ▸ sl_tupA
theorem k_len (h : X.K = K) : CallR X (.builtin "len") (rLen' K) := h ▸ call_len_seq
theorem k_list (h : X.K = K) : CallR X (.type "list") (rList' K) := h ▸ call_list_of
theorem k_tuple (h : X.K = K) : CallR X (.type "tuple") (rTuple' K) := h ▸ call_tuple_of
theorem k_sum (h : X.K = K) (hc : X.calm = true) : CallR X (.builtin "sum") (rSum K) := h ▸ cr_sum hc
theorem k_all (h : X.K = K) (hc : X.calm = true) : CallR X (.builtin "all") (rAll K) := h ▸ cr_all hc
theorem k_sorted (h : X.K = K) : CallR X (.builtin "sorted") (rSorted K) := h ▸ cr_sorted
theorem k_sortedP (h : X.K = K) : CallR X (.builtin "sorted") (rSortedP K) := h ▸ cr_sortedP
theorem k_isi (h : X.K = K) : CallR X (.builtin "isinstance") (rIsi K) := h ▸ call_isi
theorem k_isi2 (h : X.K = K) : CallR X (.builtin "isinstance") (rIsiT K) := h ▸ call_isiT
theorem k_sset {w : World} (h : X.w = w) (hc : X.calm = true) : CallR X (.builtin "sorted") (rSortedSet w) := h ▸ cr_sortedSet hc
theorem k_pil {tg l : Expr} {tl : TE} (h : X.K = K) (hl : PE X l tl) : PI X tg l (iList K tl) := h ▸ pi_list hl
theorem k_pit {tg l : Expr} {tl : TE} (h : X.K = K) (hl : PE X l tl) : PI X tg l (iTup K tl) := h ▸ pi_tup hl
theorem k_pgt {es : List Expr} {k : Nat} {t : TGs} {n : Nat} {pos : Pos} (hK : X.K = K) (hc : X.calm = true) (h : PGs X es t)
    (hn : (assignEach es X.env).length = n) (hst : (assignEach es X.env).findIdx? (·.1) = none) : PG X (.Tuple es k pos) (gTup K n t) := hK ▸ pg_tup hc h hn hst
theorem k_sci {w : World} {elt tg iter : Expr} {ifs : List Expr} {scope : Scope} {own : List (PySem.Str × Nat)} {pos : Pos} {wi : TI} {g : TG} {tt : TT} {te : TE} (hw : X.w = w)
    (h : PE X (.SetComp elt [⟨tg, iter, ifs, 0⟩] scope pos) (tSci X.w wi g tt te (own.map (·.2)))) : PE X (.SetComp elt [⟨tg, iter, ifs, 0⟩] scope pos) (tSci w wi g tt te (own.map (·.2))) := hw ▸ h
end
/-- a list or a tuple -/
def iSeq (K : PySem.W.Frag) (tl : TE) : TI := fun σ H R => tl σ H fun x H1 => ∃ a, x = .ref a ∧ (((∃ xs, SqL K H1 a xs) ∧ R (Itl K a) H1) ∨ ((∃ xs, SqT K H1 a xs) ∧ R (Itt K a) H1))
theorem k_piq {X : Cx} {K : PySem.W.Frag} {tg l : Expr} {tl : TE} (hK : X.K = K) (hl : PE X l tl) : PI X tg l (iSeq K tl) := by
  subst hK
  refine ⟨fun pins s σ H R I h => thn (hl.run pins s σ H _ I h) fun v s1 ⟨x, H1, I1, r1, a, ex, q1⟩ => ?_⟩
  subst ex
  cases r1
  have top : ∀ b ∈ [s1.heap.objs.size], FpOk X pins H1 b := fun b hb => by
    rw [List.mem_singleton.1 hb]
    exact I1.fpOk (Nat.le_refl _) (I1.hok.fresh (Nat.le_refl _))
  rcases q1 with ⟨⟨xs, hq⟩, q⟩ | ⟨⟨xs, hq⟩, q⟩
  · obtain ⟨its, _, p, _⟩ := I1.list hq
    exact wpAny_pyIter_list p.isList ⟨s1.heap.objs.size, [s1.heap.objs.size], _, _, H1, rfl, I1.kept (t' := s1.toks) fun b o e => Heap.get?_push_of_some _ e,
      turn_list a _, ⟨_, Heap.get?_push_size _ rfl, rfl, rfl⟩, top, q⟩
  · obtain ⟨its, _, p, _⟩ := I1.tuple hq
    exact wpAny_pyIter_tuple (show s1.heap.IsTuple a its.toArray from p) ⟨s1.heap.objs.size, [s1.heap.objs.size], _, _, H1, rfl, I1.kept (t' := s1.toks) fun b o e => Heap.get?_push_of_some _ e,
      turn_tuple a _, ⟨_, Heap.get?_push_size _ rfl, rfl, rfl⟩, top, q⟩
theorem gi_seq {Γ : Sl} {M : List MO} {K : PySem.W.Frag} {ta : TE} {R : PI'} (h : GE ta Γ M fun x M1 => ∃ ds, ((asL M1 x = some ds) ∧ R (fun M' => asL M' x = some ds) ds M1) ∨ (asT x = some ds ∧ R (fun _ => True) ds M1)) : GI (iSeq K ta) Γ M R := fun F σ H B ps Q e q =>
  h F σ H B ps _ e fun v x M1 H1 B1 p1 ⟨ds, h1⟩ e1 g1 v1 => by
    rcases h1 with ⟨hd, h1⟩ | ⟨hd, h1⟩
    · obtain ⟨a, xs, ev, ha, r⟩ := e1.asL v1 hd
      refine ⟨a, ev, .inl ⟨⟨xs, SqL.rd ha⟩, q _ _ ds M1 H1 B1 p1 h1 e1 g1 ⟨fun F' σ' H' Γ' M' B2 p2 e2 g2 hn i d hi => ?_, fun F' σ' H' Γ' M' B2 p2 e2 g2 hn => ?_⟩⟩⟩
      · obtain ⟨a', ys, ev', ha', r'⟩ := e2.asL (v1.go g2) hn
        rw [ev] at ev'
        cases ev'
        obtain ⟨y, hy, ry⟩ := r'.get hi
        refine ⟨⟨ys, y, SqL.rd ha', hy⟩, fun x' H3 hyl => ?_⟩
        obtain ⟨rfl, fx⟩ := hyl
        have := fx ys (SqL.rd ha')
        rw [hy] at this
        cases this
        exact ⟨B2, e2, Ex.rfl' _, Ex.rfl' _, ry⟩
      · obtain ⟨a', ys, ev', ha', r'⟩ := e2.asL (v1.go g2) hn
        rw [ev] at ev'
        cases ev'
        exact ⟨ys, SqL.rd ha', Nat.le_of_eq r'.len⟩
    · obtain ⟨a, xs, ev, ha, r⟩ := e1.asT v1 hd
      refine ⟨a, ev, .inr ⟨⟨xs, SqT.of ha⟩, q _ _ ds M1 H1 B1 p1 h1 e1 g1 ⟨fun F' σ' H' Γ' M' B2 p2 e2 g2 hn i d hi => ?_, fun F' σ' H' Γ' M' B2 p2 e2 g2 hn => ?_⟩⟩⟩
      · obtain ⟨a', ys, ev', ha', r'⟩ := e2.asT (v1.go g2) hd
        rw [ev] at ev'
        cases ev'
        obtain ⟨y, hy, ry⟩ := r'.get hi
        refine ⟨⟨ys, y, SqT.of ha', hy⟩, fun x' H3 hyl => ?_⟩
        obtain ⟨rfl, fx⟩ := hyl
        have := fx ys (SqT.of ha')
        rw [hy] at this
        cases this
        exact ⟨B2, e2, Ex.rfl' _, Ex.rfl' _, ry⟩
      · obtain ⟨a', ys, ev', ha', r'⟩ := e2.asT (v1.go g2) hd
        rw [ev] at ev'
        cases ev'
        exact ⟨ys, SqT.of ha', Nat.le_of_eq r'.len⟩
theorem gi_seqD {Γ : Sl} {M : List MO} {K : PySem.W.Frag} {ta : TE} {R : PI'} {d : PyData} {ds : List PyData} (hd : d = .list ds ∨ d = .tuple ds) (h : GE ta Γ M fun x M1 => x = .dat d ∧ R (fun _ => True) ds M1) : GI (iSeq K ta) Γ M R := fun F σ H B ps Q e q =>
  gi_seq (R := fun need ds' M1 => (∀ M', need M') ∧ ds' = ds ∧ R (fun _ => True) ds M1) (h.mono fun x M1 ⟨ex, hR⟩ => ⟨ds, by
    subst ex
    rcases hd with rfl | rfl
    · exact .inl ⟨rfl, fun _ => rfl, rfl, hR⟩
    · exact .inr ⟨rfl, fun _ => trivial, rfl, hR⟩⟩) F σ H B ps Q e fun J need ds' M' H' B' ps' ⟨hn, ed, hR⟩ e' g' w => by
    subst ed
    exact q J _ ds' M' H' B' ps' hR e' g' ⟨fun F σ H Γ M B2 ps2 e2 g2 _ => w.go F σ H Γ M B2 ps2 e2 g2 (hn M), fun F σ H Γ M B2 ps2 e2 g2 _ => w.stop F σ H Γ M B2 ps2 e2 g2 (hn M)⟩
section
variable {Γ : Sl} {M : List MO} {P : PD} {tt : TT} {te : TE} {wi : TI} {g : TG} {vs : List Nat} {T : Type}
/-- the value as data, all that came beside it let go -/
theorem ge_fz (h : GE te Γ M fun d M' => PreM M M' ∧ ∃ x, asDat M.length M' d x ∧ P (.dat x) M) : GE te Γ M P := fun F σ H B ps Q e q => h F σ H B ps Q e fun v d M' H' B' ps' ⟨hM, x, hx, hP⟩ e' g hv => by
  cases d with
  | dat y =>
    have hx : x = y := hx
    subst hx
    exact q v _ M H' B' ps hP (e.restore e' g hM) ⟨g.ex, fun _ _ h => h⟩ hv
  | ref k =>
    obtain ⟨hk, ds, hm, rfl⟩ := hx
    obtain ⟨p, hp, rfl⟩ := hv
    obtain ⟨B2, e2, g2, r⟩ := e'.freeze hp hm
    have hM2 : PreM M (M'.set k .dead) := fun j m hj => by
      have := (List.getElem?_eq_some_iff.mp hj).1
      rw [List.getElem?_set_ne (by omega)]
      exact hM j m hj
    exact q _ _ M H' B2 ps hP (e.restore e2 (g.tr g2) hM2) ⟨(g.tr g2).ex, fun _ _ h => h⟩ r
/-- a new list is data -/
theorem fz_new {ds : List PyData} {Q : PyData → Prop} (p : Q (.list ds)) : PreM M (M ++ [.lst ds]) ∧ ∃ x, asDat M.length (M ++ [.lst ds]) (.ref M.length) x ∧ Q x :=
  ⟨PreM.app _ _, _, ⟨Nat.le_refl _, ds, by rw [List.getElem?_append_right (Nat.le_refl _), Nat.sub_self] <;> rfl, rfl⟩, p⟩
theorem fz_dat {x : PyData} {Q : PyData → Prop} (p : Q x) : PreM M M ∧ ∃ y, asDat M.length M (.dat x) y ∧ Q y := ⟨PreM.rf _, _, rfl, p⟩
theorem og_ov {r : R2} {x y : D} (h : ∃ z, OV r x y M z ∧ P (.dat z) M) : OG r x y Γ M P := by
  obtain ⟨z, h1, h2⟩ := h
  exact h1.og h2
theorem at_int {α : Type} {xs : List α} {i : Int} {v : α} (h0 : 0 ≤ i) (h : xs[i.toNat]? = some v) : atI xs i = some v := by
  have := atI_nat h
  rw [Int.toNat_of_nonneg h0] at this
  exact this
theorem pe_lstRg1 {X : Cx} {a : Expr} {ta : TE} {p p2 pos pos2 : Pos} (hl : X.mg "list" = none) (hr : X.mg "range" = none) (ha : PE X a ta) (hc : X.calm = true := by rfl) (hg : Gl X "list" := by rfl) (hg2 : Gl X "range" := by rfl)
    (na : starEach [a] X.env = (false, eval a X.env) :: starEach [] X.env := by rfl) (nb : starEach [.Call (.Name "range" p2) [a] [] pos2] X.env = (false, eval (.Call (.Name "range" p2) [a] [] pos2) X.env) :: starEach [] X.env := by rfl) :
    PE X (.Call (.Name "list" p) [.Call (.Name "range" p2) [a] [] pos2] [] pos) (tLstRg (tRg1 ta)) := pe_listRg hc hg hl (prg_1 hg2 hr ha na) nb
/-- the test apart: what its answer says -/
theorem gs_ifB {t u : TS} {E : GEnd} (C : Bool → Prop) (h : GT tt Γ M fun b M' => M' = M ∧ C b) (h1 : C true → GS t Γ M E) (h2 : C false → GS u Γ M E) : GS (tIfS tt t u) Γ M E :=
  gs_if (h.mono fun b M' ⟨e, c⟩ => by
    subst e
    exact ⟨fun hb => by subst hb; exact h1 c, fun hb => by subst hb; exact h2 c⟩)
theorem gt_yes {P : Bool → List MO → Prop} (p : P true M) : GT tYes Γ M P := fun F σ H B ps Q e q => q true M H B ps p e (Gro.rf B ps)
theorem tk1 {α : Type} {l : List α} {i : Nat} {x : α} (h : l[i]? = some x) : l.take (i + 1) = l.take i ++ [x] := by rw [List.take_add_one, h] <;> rfl
theorem mp_at {α β : Type} {f : α → β} {l : List α} {i : Nat} {y : β} (h : (l.map f)[i]? = some y) : ∃ x, l[i]? = some x ∧ y = f x := by
  rw [List.getElem?_map] at h
  cases q : l[i]? with
  | none => rw [q] at h; cases h
  | some x => rw [q] at h; exact ⟨x, rfl, (Option.some.inj h).symm⟩
/-- [e for x in xs if p] -/
theorem ge_lcFilt (xs : List T) (en : T → PyData) (p : T → Bool) (e : T → PyData) (h : GI wi Γ M fun need ds M1 => need M1 ∧ ds = xs.map en ∧ xs.length < 100000 ∧
      (∀ x ∈ xs, GG g vs (.dat (en x)) (wipeG Γ vs) fun Γ2 => GT tt Γ2 M1 fun b M3 => b = p x ∧ PreM M1 M3 ∧ (p x = true → GE te Γ2 M3 fun y M4 => PreM M1 M4 ∧ asDat M1.length M4 y (e x))) ∧
      P (.ref M1.length) (M1 ++ [.lst ((xs.filter p).map e)])) : GE (tLc wi g tt te vs) Γ M P := by
  refine ge_lc fun F σ H B ps Q env q => h F σ H B ps Q env fun J need ds M' H' B' ps' ⟨h1, h2, h3, h4, h5⟩ e' g' w => q J need ds M' H' B' ps' ⟨h1, by rw [h2, List.length_map]; exact h3, fun i acc => acc = ((xs.take i).filter p).map e, rfl, ?_, ?_, ?_⟩ e' g' w
  · rintro i acc rfl
    rw [List.length_map]
    exact Nat.le_trans (List.length_filter_le _ _) (by rw [List.length_take]; exact Nat.min_le_left _ _)
  · rintro i d acc hd rfl
    rw [h2] at hd
    obtain ⟨x, hx, rfl⟩ := mp_at hd
    have step : ((xs.take (i + 1)).filter p).map e = ((xs.take i).filter p).map e ++ (if p x then [e x] else []) := by
      rw [tk1 hx, List.filter_append, List.map_append, List.filter_cons]
      split <;> rfl
    intro F σ H B M ps v Q ev hv q2
    refine h4 x (List.mem_of_getElem? hx) F σ H B M ps v Q ev hv fun σ2 Γ2 k => q2 σ2 Γ2 (k.mono fun b M3 ⟨z1, z2, z3⟩ => ⟨fun hb => ?_, fun hb => ⟨z2, ?_⟩⟩)
    · subst z1
      refine (z3 hb).mono fun y M4 ⟨w1, w2⟩ => ⟨w1, e x, w2, ?_⟩
      show _ = _
      rw [step, if_pos hb]
    · subst z1
      show _ = _
      rw [step, if_neg (by rw [hb]; decide), List.append_nil]
  · rintro acc rfl
    rw [h2, List.length_map, List.take_length]
    exact h5
/-- [e for x in xs] -/
theorem ge_lcMap (xs : List T) (en : T → PyData) (e : T → PyData) (h : GI wi Γ M fun need ds M1 => need M1 ∧ ds = xs.map en ∧ xs.length < 100000 ∧
      (∀ x ∈ xs, GG g vs (.dat (en x)) (wipeG Γ vs) fun Γ2 => GE te Γ2 M1 fun y M4 => PreM M1 M4 ∧ asDat M1.length M4 y (e x)) ∧ P (.ref M1.length) (M1 ++ [.lst (xs.map e)])) : GE (tLc wi g tYes te vs) Γ M P := by
  refine ge_lcFilt xs en (fun _ => true) e fun F σ H B ps Q env q => h F σ H B ps Q env fun J need ds M' H' B' ps' ⟨h1, h2, h3, h4, h5⟩ e' g' w => q J need ds M' H' B' ps' ⟨h1, h2, h3, fun x hx F σ H B M ps v Q ev hv q2 => ?_, ?_⟩ e' g' w
  · exact h4 x hx F σ H B M ps v Q ev hv fun σ2 Γ2 k => q2 σ2 Γ2 (gt_yes ⟨rfl, PreM.rf _, fun _ => k⟩)
  · rw [List.filter_eq_self.2 fun _ _ => rfl]
    exact h5
end
end GL

/-! Graph: lists of roads, what they join, forests; plain Lean. -/
namespace Gr
abbrev Road := Int × Int
/-- joined by these roads -/
def Conn : List Road → Int → Int → Prop
  | [], x, y => x = y
  | r :: rs, x, y => Conn rs x y ∨ (Conn rs x r.1 ∧ Conn rs r.2 y) ∨ (Conn rs x r.2 ∧ Conn rs r.1 y)
instance decConn : ∀ (rs : List Road) (x y : Int), Decidable (Conn rs x y)
  | [], x, y => inferInstanceAs (Decidable (x = y))
  | r :: rs, x, y =>
    have := decConn rs x y
    have := decConn rs x r.1
    have := decConn rs r.2 y
    have := decConn rs x r.2
    have := decConn rs r.1 y
    inferInstanceAs (Decidable (Conn rs x y ∨ (Conn rs x r.1 ∧ Conn rs r.2 y) ∨ (Conn rs x r.2 ∧ Conn rs r.1 y)))
theorem Conn.refl : ∀ (rs : List Road) (x : Int), Conn rs x x
  | [], _ => rfl
  | _ :: rs, x => .inl (Conn.refl rs x)
theorem Conn.symm : ∀ {rs : List Road} {x y : Int}, Conn rs x y → Conn rs y x
  | [], _, _, h => Eq.symm h
  | _ :: _, _, _, h => by
    rcases h with h | ⟨h1, h2⟩ | ⟨h1, h2⟩
    · exact .inl h.symm
    · exact .inr (.inr ⟨h2.symm, h1.symm⟩)
    · exact .inr (.inl ⟨h2.symm, h1.symm⟩)
theorem Conn.trans : ∀ {rs : List Road} {x y z : Int}, Conn rs x y → Conn rs y z → Conn rs x z
  | [], _, _, _, h, k => Eq.trans h k
  | _ :: _, _, _, _, h, k => by
    rcases h with h | ⟨h1, h2⟩ | ⟨h1, h2⟩ <;> rcases k with k | ⟨k1, k2⟩ | ⟨k1, k2⟩
    · exact .inl (h.trans k)
    · exact .inr (.inl ⟨h.trans k1, k2⟩)
    · exact .inr (.inr ⟨h.trans k1, k2⟩)
    · exact .inr (.inl ⟨h1, h2.trans k⟩)
    · exact .inr (.inl ⟨h1, k2⟩)
    · exact .inl (h1.trans k2)
    · exact .inr (.inr ⟨h1, h2.trans k⟩)
    · exact .inl (h1.trans k2)
    · exact .inr (.inr ⟨h1, k2⟩)
theorem Conn.mem : ∀ {rs : List Road} {r : Road}, r ∈ rs → Conn rs r.1 r.2
  | s :: rs, r, h => by
    rcases List.mem_cons.mp h with e | h
    · subst e; exact .inr (.inl ⟨.refl _ _, .refl _ _⟩)
    · exact .inl (Conn.mem h)
/-- the least equivalence -/
theorem Conn.ind {E : Int → Int → Prop} (hr : ∀ x, E x x) (hs : ∀ x y, E x y → E y x) (ht : ∀ x y z, E x y → E y z → E x z) : ∀ {rs : List Road}, (∀ r ∈ rs, E r.1 r.2) → ∀ {x y : Int}, Conn rs x y → E x y
  | [], _, _, _, h => by have e : _ = _ := h; subst e; exact hr _
  | r :: rs, hm, _, _, h => by
    have hr' := hm r List.mem_cons_self
    have ih := fun {x y} => Conn.ind hr hs ht (rs := rs) (fun s hs' => hm s (List.mem_cons_of_mem _ hs')) (x := x) (y := y)
    rcases h with h | ⟨h1, h2⟩ | ⟨h1, h2⟩
    · exact ih h
    · exact ht _ _ _ (ih h1) (ht _ _ _ hr' (ih h2))
    · exact ht _ _ _ (ih h1) (ht _ _ _ (hs _ _ hr') (ih h2))
theorem Conn.sub {rs ss : List Road} (h : ∀ r ∈ rs, r ∈ ss) {x y : Int} (c : Conn rs x y) : Conn ss x y :=
  Conn.ind (E := Conn ss) (Conn.refl ss) (fun _ _ => Conn.symm) (fun _ _ _ => Conn.trans) (fun r hr => Conn.mem (h r hr)) c
theorem Conn.same {rs ss : List Road} (h : ∀ r, r ∈ rs ↔ r ∈ ss) {x y : Int} : Conn rs x y ↔ Conn ss x y := ⟨Conn.sub fun r => (h r).1, Conn.sub fun r => (h r).2⟩
/-- a closed set that holds one end holds the other -/
theorem Conn.closed {rs : List Road} {S : Int → Prop} (h : ∀ r ∈ rs, S r.1 ↔ S r.2) {x y : Int} (c : Conn rs x y) : S x ↔ S y :=
  Conn.ind (E := fun x y => S x ↔ S y) (fun _ => Iff.rfl) (fun _ _ h => h.symm) (fun _ _ _ h k => h.trans k) h c
theorem Conn.snoc {rs : List Road} {r : Road} {x y : Int} : Conn (rs ++ [r]) x y ↔ Conn rs x y ∨ (Conn rs x r.1 ∧ Conn rs r.2 y) ∨ (Conn rs x r.2 ∧ Conn rs r.1 y) :=
  Conn.same (ss := r :: rs) fun s => by rw [List.mem_append, List.mem_singleton, List.mem_cons]; exact or_comm
/-- what is joined lies among the ends, or is one and the same -/
theorem Conn.ends {rs : List Road} {S : Int → Prop} (h : ∀ r ∈ rs, S r.1 ∧ S r.2) {x y : Int} (c : Conn rs x y) : x = y ∨ (S x ∧ S y) := by
  refine Conn.ind (E := fun x y => x = y ∨ (S x ∧ S y)) (fun _ => .inl rfl) ?_ ?_ (fun r hr => .inr (h r hr)) c
  · rintro x y (h | h)
    · exact .inl h.symm
    · exact .inr ⟨h.2, h.1⟩
  · rintro x y z (h | h) (k | k)
    · exact .inl (h.trans k)
    · exact .inr ⟨h ▸ k.1, k.2⟩
    · exact .inr ⟨h.1, k ▸ h.2⟩
    · exact .inr ⟨h.1, k.2⟩
/-! ### forests -/
def Forest : List Road → Prop
  | [] => True
  | r :: rs => Forest rs ∧ ¬ Conn rs r.1 r.2
theorem Forest.sublist : ∀ {rs ss : List Road}, rs.Sublist ss → Forest ss → Forest rs
  | _, _, .slnil, _ => trivial
  | _, _, .cons _ h, f => Forest.sublist h f.1
  | _, _, .cons_cons _ h, f => ⟨Forest.sublist h f.1, fun c => f.2 (c.sub fun _ hr => h.subset hr)⟩
theorem Forest.perm {rs ss : List Road} (p : rs.Perm ss) : Forest rs → Forest ss := by
  induction p with
  | nil => exact id
  | cons r p ih => exact fun f => ⟨ih f.1, fun c => f.2 (c.sub fun _ h => p.mem_iff.2 h)⟩
  | swap a b l =>
    rintro ⟨⟨f, ha⟩, hb⟩
    refine ⟨⟨f, fun c => hb (.inl c)⟩, fun c => ?_⟩
    rcases c with c | ⟨c1, c2⟩ | ⟨c1, c2⟩
    · exact ha c
    · exact hb (.inr (.inl ⟨c1.symm, c2.symm⟩))
    · exact hb (.inr (.inr ⟨c2, c1⟩))
  | trans _ _ i1 i2 => exact fun f => i2 (i1 f)
theorem Forest.nodup : ∀ {rs : List Road}, Forest rs → rs.Nodup
  | [], _ => .nil
  | r :: rs, f => List.nodup_cons.2 ⟨fun h => f.2 (Conn.mem h), Forest.nodup f.1⟩
/-- without a road of its own its ends are parted -/
theorem Forest.parts {rs : List Road} (f : Forest rs) {r : Road} (h : r ∈ rs) : ¬ Conn (rs.filter fun s => decide (s ≠ r)) r.1 r.2 := fun c => by
  have g := f.perm (List.perm_cons_erase h)
  refine g.2 (c.sub fun s hs => ?_)
  obtain ⟨h1, h2⟩ := List.mem_filter.1 hs
  have h2 : s ≠ r := by simpa using h2
  exact (List.mem_erase_of_ne h2).2 h1
theorem Forest.snoc {rs : List Road} {r : Road} (f : Forest rs) (h : ¬ Conn rs r.1 r.2) : Forest (rs ++ [r]) :=
  Forest.perm (rs := r :: rs) (List.perm_append_singleton r rs).symm ⟨f, h⟩
theorem Forest.snoc_iff {rs : List Road} {r : Road} : Forest (rs ++ [r]) ↔ Forest rs ∧ ¬ Conn rs r.1 r.2 := ⟨fun f => Forest.perm (ss := r :: rs) (List.perm_append_singleton r rs) f, fun h => h.1.snoc h.2⟩
/-- one house for each group -/
theorem reps {S : List Int} (hS : S.Nodup) : ∀ {rs : List Road}, Forest rs → (∀ r ∈ rs, r.1 ∈ S ∧ r.2 ∈ S) →
    ∃ R : List Int, R.Nodup ∧ (∀ x ∈ R, x ∈ S) ∧ R.length + rs.length = S.length ∧ (∀ s ∈ S, ∃ x ∈ R, Conn rs s x) ∧ (∀ x ∈ R, ∀ y ∈ R, Conn rs x y → x = y)
  | [], _, _ => ⟨S, hS, fun _ h => h, rfl, fun s h => ⟨s, h, rfl⟩, fun _ _ _ _ h => h⟩
  | r :: rs, f, hm => by
    obtain ⟨R, nd, sub, len, cov, sep⟩ := reps hS f.1 fun s hs => hm s (List.mem_cons_of_mem _ hs)
    obtain ⟨m1, m2⟩ := hm r List.mem_cons_self
    obtain ⟨p, hp, cp⟩ := cov _ m1
    obtain ⟨q, hq, cq⟩ := cov _ m2
    have hpq : p ≠ q := fun e => f.2 (cp.trans (e ▸ cq.symm))
    have hp' : p ∈ R.erase q := (List.mem_erase_of_ne hpq).2 hp
    have noq : ∀ x ∈ R.erase q, x ∈ R ∧ x ≠ q := fun x hx => by
      have := (nd.mem_erase_iff).1 hx
      exact ⟨this.2, this.1⟩
    refine ⟨R.erase q, nd.erase q, fun x hx => sub x (noq x hx).1, ?_, fun s hs => ?_, fun x hx y hy c => ?_⟩
    · rw [List.length_erase_of_mem hq, List.length_cons]
      have := List.length_pos_of_mem hq
      omega
    · obtain ⟨x, hx, cx⟩ := cov s hs
      by_cases e : x = q
      · subst e
        exact ⟨p, hp', .inr (.inr ⟨cx.trans cq.symm, cp⟩)⟩
      · exact ⟨x, (List.mem_erase_of_ne e).2 hx, .inl cx⟩
    · obtain ⟨hx, nx⟩ := noq x hx
      obtain ⟨hy, ny⟩ := noq y hy
      rcases c with c | ⟨c1, c2⟩ | ⟨c1, c2⟩
      · exact sep x hx y hy c
      · exact absurd (sep y hy q hq (c2.symm.trans cq)) ny
      · exact absurd (sep x hx q hq (c1.trans cq)) nx
theorem forest_le {S : List Int} (hS : S.Nodup) (h0 : S ≠ []) {rs : List Road} (f : Forest rs) (hm : ∀ r ∈ rs, r.1 ∈ S ∧ r.2 ∈ S) : rs.length + 1 ≤ S.length := by
  obtain ⟨R, _, _, len, cov, _⟩ := reps hS f hm
  obtain ⟨s, hs⟩ := List.exists_mem_of_ne_nil S h0
  obtain ⟨x, hx, _⟩ := cov s hs
  have := List.length_pos_of_mem hx
  omega
theorem forest_all {S : List Int} (hS : S.Nodup) {rs : List Road} (f : Forest rs) (hm : ∀ r ∈ rs, r.1 ∈ S ∧ r.2 ∈ S) (hl : rs.length + 1 = S.length) {x y : Int} (hx : x ∈ S) (hy : y ∈ S) : Conn rs x y := by
  obtain ⟨R, _, _, len, cov, _⟩ := reps hS f hm
  obtain ⟨a, ha, ca⟩ := cov x hx
  obtain ⟨b, hb, cb⟩ := cov y hy
  have h1 : R.length = 1 := by omega
  match R, h1, ha, hb with
  | [z], _, ha, hb =>
    have e1 := List.mem_singleton.1 ha
    have e2 := List.mem_singleton.1 hb
    subst e1
    subst e2
    exact ca.trans cb.symm
theorem forest_one {S : List Int} (hS : S.Nodup) (h0 : S ≠ []) {rs : List Road} (f : Forest rs) (hm : ∀ r ∈ rs, r.1 ∈ S ∧ r.2 ∈ S) (hc : ∀ x ∈ S, ∀ y ∈ S, Conn rs x y) : rs.length + 1 = S.length := by
  obtain ⟨R, nd, sub, len, cov, sep⟩ := reps hS f hm
  obtain ⟨s, hs⟩ := List.exists_mem_of_ne_nil S h0
  obtain ⟨x, hx, _⟩ := cov s hs
  have h1 : R.length = 1 := by
    match R, nd, hx, sub, sep with
    | [z], _, _, _, _ => rfl
    | a :: b :: R, nd, _, sub, sep =>
      have e := sep a List.mem_cons_self b (List.mem_cons_of_mem _ List.mem_cons_self) (hc a (sub a List.mem_cons_self) b (sub b (List.mem_cons_of_mem _ List.mem_cons_self)))
      subst e
      exact absurd List.mem_cons_self (List.nodup_cons.1 nd).1
  omega
/-! ### sets on roads -/
def within (rs : List Road) (m : List Int) : List Road := rs.filter fun r => decide (r.1 ∈ m) && decide (r.2 ∈ m)
theorem mem_within {rs : List Road} {m : List Int} {r : Road} : r ∈ within rs m ↔ r ∈ rs ∧ r.1 ∈ m ∧ r.2 ∈ m := by
  unfold within
  rw [List.mem_filter, Bool.and_eq_true, decide_eq_true_eq, decide_eq_true_eq]
theorem within_forest {rs : List Road} (f : Forest rs) (m : List Int) : Forest (within rs m) := f.sublist List.filter_sublist
theorem within_le {rs : List Road} (f : Forest rs) {m : List Int} (hm : m.Nodup) (h0 : m ≠ []) : (within rs m).length + 1 ≤ m.length := forest_le hm h0 (within_forest f m) fun _ h => (mem_within.1 h).2
/-- the members hang together within, told by counting -/
theorem within_iff {rs : List Road} (f : Forest rs) {m : List Int} (hm : m.Nodup) {x : Int} (hx : x ∈ m) : (within rs m).length + 1 = m.length ↔ ∀ y ∈ m, Conn (within rs m) x y := by
  have h0 : m ≠ [] := fun e => by subst e; cases hx
  constructor
  · intro h y hy
    exact forest_all hm (within_forest f m) (fun _ h => (mem_within.1 h).2) h hx hy
  · intro h
    exact forest_one hm h0 (within_forest f m) (fun _ h => (mem_within.1 h).2) fun a ha b hb => (h a ha).symm.trans (h b hb)
/-- how many sets hold both ends -/
def wtN (ss : List (List Int)) (a b : Int) : Nat := (ss.filter fun m => decide (a ∈ m) && decide (b ∈ m)).length
theorem sum_swap : ∀ (rs : List Road) (ss : List (List Int)), (rs.map fun r => wtN ss r.1 r.2).sum = (ss.map fun m => (within rs m).length).sum
  | rs, [] => by
    induction rs with
    | nil => rfl
    | cons r rs ih =>
      rw [List.map_cons, List.sum_cons, ih]
      rfl
  | rs, m :: ss => by
    rw [List.map_cons, List.sum_cons, ← sum_swap rs ss]
    induction rs with
    | nil => rfl
    | cons r rs ih =>
      rw [List.map_cons, List.sum_cons, ih, List.map_cons, List.sum_cons]
      unfold wtN within
      rw [List.filter_cons, List.filter_cons]
      split <;> (try simp only [List.length_cons]) <;> omega
theorem sums_le : ∀ {ss : List (List Int)} {f g : List Int → Nat}, (∀ m ∈ ss, f m ≤ g m) → (ss.map f).sum ≤ (ss.map g).sum
  | [], _, _, _ => Nat.le_refl _
  | m :: ss, f, g, h => by
    rw [List.map_cons, List.sum_cons, List.map_cons, List.sum_cons]
    exact Nat.add_le_add (h m List.mem_cons_self) (sums_le fun x hx => h x (List.mem_cons_of_mem _ hx))
theorem sums_eq : ∀ {ss : List (List Int)} {f g : List Int → Nat}, (∀ m ∈ ss, f m ≤ g m) → (ss.map f).sum = (ss.map g).sum → ∀ m ∈ ss, f m = g m
  | [], _, _, _, _ => fun _ h => nomatch h
  | m :: ss, f, g, h, e => by
    rw [List.map_cons, List.sum_cons, List.map_cons, List.sum_cons] at e
    have h1 := h m List.mem_cons_self
    have h2 := sums_le (f := f) (g := g) fun x hx => h x (List.mem_cons_of_mem m hx)
    intro x hx
    rcases List.mem_cons.1 hx with e2 | hx
    · subst e2; omega
    · exact sums_eq (fun x hx => h x (List.mem_cons_of_mem _ hx)) (by omega) x hx
theorem weight_le {rs : List Road} (f : Forest rs) {ss : List (List Int)} (hs : ∀ m ∈ ss, m.Nodup ∧ m ≠ []) : (rs.map fun r => wtN ss r.1 r.2).sum ≤ (ss.map fun m => m.length - 1).sum := by
  rw [sum_swap]
  refine sums_le fun m hm => ?_
  have := within_le f (hs m hm).1 (hs m hm).2
  omega
theorem weight_eq {rs : List Road} (f : Forest rs) {ss : List (List Int)} (hs : ∀ m ∈ ss, m.Nodup ∧ m ≠ []) (e : (rs.map fun r => wtN ss r.1 r.2).sum = (ss.map fun m => m.length - 1).sum) : ∀ m ∈ ss, (within rs m).length + 1 = m.length := by
  rw [sum_swap] at e
  intro m hm
  have h := sums_eq (f := fun m => (within rs m).length) (g := fun m => m.length - 1) (fun m hm => by
    show (within rs m).length ≤ m.length - 1
    have := within_le f (hs m hm).1 (hs m hm).2
    omega) e m hm
  have h : (within rs m).length = m.length - 1 := h
  have := List.length_pos_iff.2 (hs m hm).2
  omega
end Gr

/-! GraphB: reaching by rounds; groups by labels; the lightest road on the way. -/
namespace Gr
/-! ### reaching -/
def closed (rs : List Road) (fs : List Int) : Prop := ∀ r ∈ rs, r.1 ∈ fs ↔ r.2 ∈ fs
structure Reach (rs : List Road) (st : Int) (fs : List Int) : Prop where
  nd : fs.Nodup
  s0 : st ∈ fs
  con : ∀ x ∈ fs, Conn rs st x
  len : fs.length ≤ 1 + (within rs fs).length
theorem Reach.init (rs : List Road) (st : Int) : Reach rs st [st] := ⟨List.nodup_cons.2 ⟨by simp, .nil⟩, by simp, fun x hx => by rw [List.mem_singleton.1 hx]; exact .refl _ _, by simp⟩
theorem filter_le {α : Type} {p q : α → Bool} (h : ∀ x, p x = true → q x = true) : ∀ l : List α, (l.filter p).length ≤ (l.filter q).length
  | [] => Nat.le_refl _
  | a :: l => by
    have ih := filter_le h l
    rw [List.filter_cons, List.filter_cons]
    by_cases ha : p a = true
    · rw [if_pos ha, if_pos (h a ha)]; exact Nat.succ_le_succ ih
    · rw [if_neg ha]
      split
      · exact Nat.le_succ_of_le ih
      · exact ih
theorem filter_lt {α : Type} {p q : α → Bool} (h : ∀ x, p x = true → q x = true) : ∀ {l : List α}, (∃ x ∈ l, q x = true ∧ p x = false) → (l.filter p).length < (l.filter q).length
  | [], ⟨x, hx, _⟩ => by cases hx
  | a :: l, ⟨x, hx, hq, hp⟩ => by
    rw [List.filter_cons, List.filter_cons]
    rcases List.mem_cons.1 hx with e | hx
    · subst e
      rw [if_pos hq, if_neg (by rw [hp]; decide)]
      exact Nat.lt_succ_of_le (filter_le h l)
    · have ih := filter_lt h (l := l) ⟨x, hx, hq, hp⟩
      by_cases ha : p a = true
      · rw [if_pos ha, if_pos (h a ha)]; exact Nat.succ_lt_succ ih
      · rw [if_neg ha]
        split
        · exact Nat.lt_succ_of_lt ih
        · exact ih
theorem within_more {rs : List Road} {fs : List Int} {r : Road} {x : Int} (hr : r ∈ rs) (h : (r.1 ∈ fs ∧ r.2 = x ∧ x ∉ fs) ∨ (r.2 ∈ fs ∧ r.1 = x ∧ x ∉ fs)) : (within rs fs).length + 1 ≤ (within rs (fs ++ [x])).length := by
  refine filter_lt (fun s hs => ?_) ⟨r, hr, ?_, ?_⟩
  · rw [Bool.and_eq_true, decide_eq_true_eq, decide_eq_true_eq] at hs ⊢
    exact ⟨List.mem_append_left _ hs.1, List.mem_append_left _ hs.2⟩
  · rw [Bool.and_eq_true, decide_eq_true_eq, decide_eq_true_eq]
    rcases h with ⟨h1, h2, _⟩ | ⟨h1, h2, _⟩
    · exact ⟨List.mem_append_left _ h1, by rw [h2]; simp⟩
    · exact ⟨by rw [h2]; simp, List.mem_append_left _ h1⟩
  · rcases h with ⟨h1, h2, h3⟩ | ⟨h1, h2, h3⟩
    · rw [h2, decide_eq_false h3, Bool.and_false]
    · rw [h2, decide_eq_false h3, Bool.false_and]
theorem Reach.add {rs : List Road} {st : Int} {fs : List Int} (R : Reach rs st fs) {r : Road} {x : Int} (hr : r ∈ rs) (h : (r.1 ∈ fs ∧ r.2 = x ∧ x ∉ fs) ∨ (r.2 ∈ fs ∧ r.1 = x ∧ x ∉ fs)) : Reach rs st (fs ++ [x]) ∧ (within rs fs).length + 1 ≤ (within rs (fs ++ [x])).length := by
  have m := within_more hr h
  have hx : x ∉ fs := by rcases h with h | h <;> exact h.2.2
  refine ⟨⟨?_, List.mem_append_left _ R.s0, fun y hy => ?_, ?_⟩, m⟩
  · rw [List.nodup_append]
    refine ⟨R.nd, List.nodup_cons.2 ⟨by simp, .nil⟩, fun a ha b hb => ?_⟩
    rw [List.mem_singleton.1 hb]
    exact fun e => hx (e ▸ ha)
  · rcases List.mem_append.1 hy with hy | hy
    · exact R.con y hy
    · rw [List.mem_singleton.1 hy]
      rcases h with ⟨h1, h2, _⟩ | ⟨h1, h2, _⟩
      · exact (R.con _ h1).trans (h2 ▸ Conn.mem hr)
      · exact (R.con _ h1).trans (h2 ▸ (Conn.mem hr).symm)
  · rw [List.length_append, List.length_singleton]
    have := R.len
    omega
theorem within_all {rs : List Road} {fs : List Int} (h : rs.length ≤ (within rs fs).length) : closed rs fs := fun r hr => by
  have e : within rs fs = rs := List.Sublist.eq_of_length_le List.filter_sublist h
  have : r ∈ within rs fs := by rw [e]; exact hr
  obtain ⟨_, h1, h2⟩ := mem_within.1 this
  exact ⟨fun _ => h2, fun _ => h1⟩
theorem Reach.all {rs : List Road} {st : Int} {fs : List Int} (R : Reach rs st fs) (c : closed rs fs) (b : Int) : b ∈ fs ↔ Conn rs st b :=
  ⟨R.con b, fun h => (Conn.closed (S := fun x => x ∈ fs) c h).1 R.s0⟩
/-! ### labels -/
/-- gs tells the groups of 0 to h: equal labels, joined -/
def Labels (h : Nat) (rs : List Road) (gs : List Int) : Prop := gs.length = h + 1 ∧ ∀ (x y : Nat) (u v : Int), gs[x]? = some u → gs[y]? = some v → (u = v ↔ Conn rs (x : Int) (y : Int))
theorem Labels.merge {h : Nat} {rs : List Road} {gs : List Int} (L : Labels h rs gs) {a b : Nat} {u v : Int} (ha : gs[a]? = some u) (hb : gs[b]? = some v) : Labels h (rs ++ [((a : Int), (b : Int))]) (gs.map fun g => if g = v then u else g) := by
  refine ⟨by rw [List.length_map]; exact L.1, fun x y p q hx hy => ?_⟩
  rw [List.getElem?_map] at hx hy
  obtain ⟨p0, hx0, rfl⟩ := Option.map_eq_some_iff.1 hx
  obtain ⟨q0, hy0, rfl⟩ := Option.map_eq_some_iff.1 hy
  rw [Conn.snoc]
  have hxy := L.2 x y _ _ hx0 hy0
  have hxa := L.2 x a _ _ hx0 ha
  have hxb := L.2 x b _ _ hx0 hb
  have hay := L.2 a y _ _ ha hy0
  have hby := L.2 b y _ _ hb hy0
  show (if p0 = v then u else p0) = (if q0 = v then u else q0) ↔ Conn rs x y ∨ (Conn rs x a ∧ Conn rs b y) ∨ (Conn rs x b ∧ Conn rs a y)
  rw [← hxy, ← hxa, ← hxb, ← hay, ← hby]
  constructor
  · intro e
    by_cases h1 : p0 = v <;> by_cases h2 : q0 = v
    · exact .inl (h1.trans h2.symm)
    · rw [if_pos h1, if_neg h2] at e; exact .inr (.inr ⟨h1, e⟩)
    · rw [if_neg h1, if_pos h2] at e; exact .inr (.inl ⟨e, h2.symm⟩)
    · rw [if_neg h1, if_neg h2] at e; exact .inl e
  · rintro (e | ⟨e1, e2⟩ | ⟨e1, e2⟩)
    · rw [e]
    · by_cases h1 : p0 = v
      · rw [if_pos h1, if_pos e2.symm]
      · rw [if_neg h1, if_pos e2.symm, e1]
    · rw [if_pos e1]
      by_cases h2 : q0 = v
      · rw [if_pos h2]
      · rw [if_neg h2, e2]
theorem Labels.init (h : Nat) : Labels h [] ((List.range (h + 1)).map fun i => ((0 : Int) + (i : Nat))) := by
  refine ⟨by rw [List.length_map, List.length_range], fun x y u v hx hy => ?_⟩
  rw [List.getElem?_map] at hx hy
  obtain ⟨p, hp, rfl⟩ := Option.map_eq_some_iff.1 hx
  obtain ⟨q, hq, rfl⟩ := Option.map_eq_some_iff.1 hy
  have e1 := List.getElem?_eq_some_iff.1 hp
  have e2 := List.getElem?_eq_some_iff.1 hq
  obtain ⟨_, e1⟩ := e1
  obtain ⟨_, e2⟩ := e2
  rw [List.getElem_range] at e1 e2
  subst e1; subst e2
  show ((0 : Int) + (x : Int) = 0 + (y : Int)) ↔ (x : Int) = (y : Int)
  omega
end Gr

/-! Spec99: what planned roads judged are, as plain functions and relations. -/
namespace K99
open PySem Gr
/-! ### shapes -/
def isWh : PyData → Bool | .int _ => true | _ => false
def asRoad : PyData → Option Road
  | .tuple [.int a, .int b] => some (a, b)
  | _ => none
def asRoads : List PyData → Option (List Road)
  | [] => some []
  | d :: ds => match asRoad d, asRoads ds with
    | some r, some rs => some (r :: rs)
    | _, _ => none
abbrev prP (r : Road) : PyData := .tuple [.int r.1, .int r.2]
theorem asRoad_some {d : PyData} {r : Road} (h : asRoad d = some r) : d = prP r := by
  unfold asRoad at h
  split at h
  · cases h; rfl
  · cases h
theorem asRoad_prP (r : Road) : asRoad (prP r) = some r := rfl
theorem asRoads_some : ∀ {ds : List PyData} {rs : List Road}, asRoads ds = some rs → ds = rs.map prP
  | [], rs, h => by cases h; rfl
  | d :: ds, rs, h => by
    unfold asRoads at h
    split at h
    · rename_i r rs' h1 h2
      cases h
      rw [asRoad_some h1, asRoads_some h2] <;> rfl
    · cases h
theorem asRoads_prP : ∀ rs : List Road, asRoads (rs.map prP) = some rs
  | [] => rfl
  | r :: rs => by
    rw [List.map_cons]
    unfold asRoads
    rw [asRoad_prP, asRoads_prP rs]
theorem asRoads_all : ∀ ds : List PyData, (asRoads ds).isSome = (ds.map fun d => (asRoad d).isSome).all id
  | [] => rfl
  | d :: ds => by
    have ih := asRoads_all ds
    rw [List.map_cons, List.all_cons, ← ih]
    have h : asRoads (d :: ds) = (asRoad d).bind fun r => (asRoads ds).map fun rs => r :: rs := by
      conv => lhs; unfold asRoads
      cases asRoad d <;> cases asRoads ds <;> rfl
    rw [h]
    cases asRoad d <;> cases asRoads ds <;> rfl
def wt (ss : List (List Int)) (a b : Int) : Int := (wtN ss a b : Int)
/-! ### the roads' own fault -/
def rowBad (h : Int) (rs : List Road) (k : Nat) : Prop := ∃ r, rs[k]? = some r ∧ (¬ (1 ≤ r.1 ∧ r.1 < r.2 ∧ r.2 ≤ h) ∨ Conn (rs.take k) r.1 r.2)
def dRow (k : Nat) : PyData := .tuple [.str "row", .int ((k : Int) + 1)]
def RF (h : Int) (rs : List Road) (d : PyData) : Prop :=
  (∃ k, k < rs.length ∧ rowBad h rs k ∧ (∀ j, j < k → ¬ rowBad h rs j) ∧ d = dRow k) ∨
  ((∀ j, ¬ rowBad h rs j) ∧ (((rs.length : Int) < h - 1 ∧ d = dRow rs.length) ∨ (¬ (rs.length : Int) < h - 1 ∧ d = .none)))
theorem RF.uniq {h : Int} {rs : List Road} {d e : PyData} (a : RF h rs d) (b : RF h rs e) : d = e := by
  rcases a with ⟨k, hk, bk, fk, rfl⟩ | ⟨na, a⟩ <;> rcases b with ⟨j, hj, bj, fj, rfl⟩ | ⟨nb, b⟩
  · rcases Nat.lt_trichotomy k j with z | z | z
    · exact absurd bk (fj k z)
    · rw [z]
    · exact absurd bj (fk j z)
  · exact absurd bk (nb k)
  · exact absurd bj (na j)
  · rcases a with ⟨a, rfl⟩ | ⟨a, rfl⟩ <;> rcases b with ⟨b, rfl⟩ | ⟨b, rfl⟩
    · rfl
    · exact absurd a b
    · exact absurd b a
    · rfl
/-- roads without a fault are a tree on houses 1 to h -/
structure Tree (h : Int) (rs : List Road) : Prop where
  ok : ∀ r ∈ rs, 1 ≤ r.1 ∧ r.1 < r.2 ∧ r.2 ≤ h
  forest : Forest rs
  many : h - 1 ≤ (rs.length : Int)
theorem forest_of_takes {rs : List Road} (h : ∀ k r, rs[k]? = some r → ¬ Conn (rs.take k) r.1 r.2) : ∀ n, n ≤ rs.length → Forest (rs.take n)
  | 0, _ => by rw [List.take_zero]; trivial
  | n + 1, hn => by
    have hl : n < rs.length := hn
    rw [List.take_add_one, List.getElem?_eq_getElem hl]
    exact (forest_of_takes h n (by omega)).snoc (h n _ (List.getElem?_eq_getElem hl))
theorem RF.tree {h : Int} {rs : List Road} (a : RF h rs .none) : Tree h rs := by
  rcases a with ⟨k, _, _, _, e⟩ | ⟨na, a⟩
  · cases e
  · rcases a with ⟨_, e⟩ | ⟨a, _⟩
    · cases e
    · refine ⟨fun r hr => ?_, ?_, by omega⟩
      · obtain ⟨k, hk, e⟩ := List.mem_iff_getElem.1 hr
        apply Classical.byContradiction
        intro z
        exact na k ⟨r, by rw [List.getElem?_eq_getElem hk, e], .inl z⟩
      · have := forest_of_takes (rs := rs) (fun k r hk c => na k ⟨r, hk, .inr c⟩) rs.length (Nat.le_refl _)
        rw [List.take_length] at this
        exact this
theorem Tree.rf {h : Int} {rs : List Road} (t : Tree h rs) : RF h rs .none := by
  refine .inr ⟨?_, .inr ⟨by have := t.many; omega, rfl⟩⟩
  rintro k ⟨r, hk, z | z⟩
  · exact z (t.ok r (List.mem_of_getElem? hk))
  · have hl := (List.getElem?_eq_some_iff.1 hk).1
    have f : Forest (rs.take (k + 1)) := t.forest.sublist (List.take_sublist _ _)
    rw [List.take_add_one, hk] at f
    exact (Forest.snoc_iff.1 f).2 z
/-! ### a road that would make a tree heavier -/
def less (rs : List Road) (r : Road) : List Road := rs.filter fun s => decide (s ≠ r)
def Lighter (ss : List (List Int)) (rs : List Road) (a b : Int) : Prop := ∃ r ∈ rs, ¬ Conn (less rs r) a b ∧ wt ss r.1 r.2 < wt ss a b
def dRoad (a b : Int) : PyData := .tuple [.str "road", .int a, .int b]
def LF (h : Int) (ss : List (List Int)) (rs : List Road) (d : PyData) : Prop :=
  (d = .none ∧ ∀ a b, 1 ≤ a → a < b → b ≤ h → ¬ Lighter ss rs a b) ∨
  ∃ a b, 1 ≤ a ∧ a < b ∧ b ≤ h ∧ Lighter ss rs a b ∧ d = dRoad a b ∧ ∀ a' b', 1 ≤ a' → a' < b' → b' ≤ h → (a' < a ∨ (a' = a ∧ b' < b)) → ¬ Lighter ss rs a' b'
theorem LF.uniq {h : Int} {ss : List (List Int)} {rs : List Road} {d e : PyData} (x : LF h ss rs d) (y : LF h ss rs e) : d = e := by
  rcases x with ⟨rfl, x⟩ | ⟨a, b, h1, h2, h3, h4, rfl, h5⟩ <;> rcases y with ⟨rfl, y⟩ | ⟨a', b', k1, k2, k3, k4, rfl, k5⟩
  · rfl
  · exact absurd k4 (x a' b' k1 k2 k3)
  · exact absurd h4 (y a b h1 h2 h3)
  · rcases Int.lt_trichotomy a a' with z | z | z
    · exact absurd h4 (k5 a b h1 h2 h3 (.inl z))
    · subst z
      rcases Int.lt_trichotomy b b' with z | z | z
      · exact absurd h4 (k5 a b h1 h2 h3 (.inr ⟨rfl, z⟩))
      · subst z; rfl
      · exact absurd k4 (h5 a b' k1 k2 k3 (.inr ⟨rfl, z⟩))
    · exact absurd k4 (h5 a' b' k1 k2 k3 (.inl z))
/-! ### the verdicts -/
def wsum (ss : List (List Int)) (rs : List Road) : Int := (rs.map fun r => wt ss r.1 r.2).sum
def asum (ss : List (List Int)) : Int := (ss.map fun m => (m.length : Int) - 1).sum
def dNum (k : Int) : PyData := .tuple [.str "number", .int k]
def dSame : PyData := .tuple [.str "same"]
def dForm : PyData := .tuple [.str "form"]
def dSet (k : Nat) : PyData := .tuple [.str "set", .int ((k : Int) + 1)]
def NF (h : Int) (ss : List (List Int)) (rs : List Road) (u v : Int) (d : PyData) : Prop :=
  (u ≠ wsum ss rs ∧ d = dNum 1) ∨ (u = wsum ss rs ∧ v ≠ asum ss ∧ d = dNum 2) ∨
  (u = wsum ss rs ∧ v = asum ss ∧ ∃ f, LF h ss rs f ∧ ((f ≠ .none ∧ d = f) ∨ (f = .none ∧ ((wsum ss rs < asum ss ∧ d = .none) ∨ (¬ wsum ss rs < asum ss ∧ d = dSame)))))
theorem NF.uniq {h : Int} {ss : List (List Int)} {rs : List Road} {u v : Int} {d e : PyData} (x : NF h ss rs u v d) (y : NF h ss rs u v e) : d = e := by
  rcases x with ⟨x1, rfl⟩ | ⟨x1, x2, rfl⟩ | ⟨x1, x2, f, x3, x4⟩ <;> rcases y with ⟨y1, rfl⟩ | ⟨y1, y2, rfl⟩ | ⟨y1, y2, g, y3, y4⟩ <;> first | rfl | exact absurd x1 y1 | exact absurd y1 x1 | exact absurd x2 y2 | exact absurd y2 x2 | skip
  have e0 := x3.uniq y3
  subst e0
  rcases x4 with ⟨x4, rfl⟩ | ⟨x4, x5⟩ <;> rcases y4 with ⟨y4, rfl⟩ | ⟨y4, y5⟩
  · rfl
  · exact absurd y4 x4
  · exact absurd x4 y4
  · rcases x5 with ⟨x5, rfl⟩ | ⟨x5, rfl⟩ <;> rcases y5 with ⟨y5, rfl⟩ | ⟨y5, rfl⟩ <;> first | rfl | exact absurd x5 y5 | exact absurd y5 x5
def hangs (rs : List Road) (m : List Int) : Prop := (within rs m).length + 1 = m.length
def SF (ss : List (List Int)) (rs : List Road) (d : PyData) : Prop :=
  (d = .none ∧ ∀ (k : Nat) m, ss[k]? = some m → hangs rs m) ∨ ∃ (k : Nat) (m : List Int), ss[k]? = some m ∧ ¬ hangs rs m ∧ (∀ (j : Nat) m', j < k → ss[j]? = some m' → hangs rs m') ∧ d = dSet k
theorem SF.uniq {ss : List (List Int)} {rs : List Road} {d e : PyData} (x : SF ss rs d) (y : SF ss rs e) : d = e := by
  rcases x with ⟨rfl, x⟩ | ⟨k, m, h1, h2, h3, rfl⟩ <;> rcases y with ⟨rfl, y⟩ | ⟨j, n, k1, k2, k3, rfl⟩
  · rfl
  · exact absurd (x j n k1) k2
  · exact absurd (y k m h1) h2
  · rcases Nat.lt_trichotomy k j with z | z | z
    · exact absurd (k3 k m z h1) h2
    · rw [z]
    · exact absurd (h3 j n z k1) k2
/-- a verdict that has the form -/
inductive Form where
  | tree (rs : List Road) | none (rs : List Road) (u v : Int) | bad
def rowsOf : PyData → Option (List Road)
  | .list ds => asRoads ds
  | .tuple ds => asRoads ds
  | _ => none
def itemsOf : PyData → List PyData
  | .list ds => ds
  | .tuple ds => ds
  | _ => []
theorem rowsOf_items {d : PyData} (h : (∃ ds, d = .list ds) ∨ ∃ ds, d = .tuple ds) : rowsOf d = asRoads (itemsOf d) := by
  rcases h with ⟨ds, rfl⟩ | ⟨ds, rfl⟩ <;> rfl
def formOf : PyData → Form
  | .tuple [.str t, rd] => if t = "tree" then (match rowsOf rd with | some rs => .tree rs | none => .bad) else .bad
  | .tuple [.str t, rd, .int u, .int v] => if t = "none" then (match rowsOf rd with | some rs => .none rs u v | none => .bad) else .bad
  | _ => .bad
def formOk (v : PyData) : Bool := match formOf v with
  | .bad => false
  | _ => true
theorem formOk_tree (d : PyData) : formOk (.tuple [.str "tree", d]) = (rowsOf d).isSome := by
  simp only [formOk, formOf, if_true]
  cases rowsOf d <;> rfl
theorem formOk_none (d u v : PyData) : formOk (.tuple [.str "none", d, u, v]) = ((rowsOf d).isSome && isWh u && isWh v) := by
  cases u <;> cases v <;> first
    | (simp only [formOk, formOf, if_true]; cases rowsOf d <;> rfl)
    | (cases rowsOf d <;> rfl)
/-- the verdicts that the law hands in -/
def VOk (v : PyData) : Prop := (∃ t r, v = .tuple (.str t :: r) ∧ (t = "tree" ∨ t = "none") ∧ r.length ≤ 3 ∧ (∀ d s, r = d :: s → ∃ ds, ds.length < 1000 ∧ (d = .list ds ∨ (d = .tuple ds ∧ t = "none")))) ∨ (∃ ds, v = .list ds) ∨ v = .none
def JD (h : Int) (ss : List (List Int)) (v d : PyData) : Prop :=
  match formOf v with
  | .bad => d = dForm
  | .tree rs => ∃ f, RF h rs f ∧ ((f ≠ .none ∧ d = f) ∨ (f = .none ∧ SF ss rs d))
  | .none rs u w => ∃ f, RF h rs f ∧ ((f ≠ .none ∧ d = f) ∨ (f = .none ∧ NF h ss rs u w d))
theorem JD.uniq {h : Int} {ss : List (List Int)} {v d e : PyData} (x : JD h ss v d) (y : JD h ss v e) : d = e := by
  unfold JD at x y
  cases q : formOf v with
  | bad =>
    rw [q] at x y
    exact x.trans y.symm
  | tree rs =>
    rw [q] at x y
    obtain ⟨f, x1, x2⟩ := x
    obtain ⟨g, y1, y2⟩ := y
    have e0 := x1.uniq y1
    subst e0
    rcases x2 with ⟨x2, rfl⟩ | ⟨x2, x3⟩ <;> rcases y2 with ⟨y2, rfl⟩ | ⟨y2, y3⟩ <;> first | rfl | exact absurd x2 y2 | exact absurd y2 x2 | exact x3.uniq y3
  | none rs u w =>
    rw [q] at x y
    obtain ⟨f, x1, x2⟩ := x
    obtain ⟨g, y1, y2⟩ := y
    have e0 := x1.uniq y1
    subst e0
    rcases x2 with ⟨x2, rfl⟩ | ⟨x2, x3⟩ <;> rcases y2 with ⟨y2, rfl⟩ | ⟨y2, y3⟩ <;> first | rfl | exact absurd x2 y2 | exact absurd y2 x2 | exact x3.uniq y3
end K99

/-! K99B: the text by places, what the top leaves. -/
namespace GL
open PySem PySem.Spec PyProof.Rows L2
def pInt : PyData → Bool | .int _ => true | .bool _ => true | _ => false
def pBool : PyData → Bool | .bool _ => true | _ => false
def pStr : PyData → Bool | .str _ => true | _ => false
def pTup : PyData → Bool | .tuple _ => true | _ => false
def pLst : PyData → Bool | .list _ => true | _ => false
def pDct : PyData → Bool | .dict _ => true | _ => false
section
variable {K : PySem.W.Frag}
theorem kit_int (d : PyData) : PySem.W.kitOne K (tyP d) (.type "int") = some (pInt d) := by cases d <;> first | exact kit_ty (r := true) (by decide +kernel) | exact kit_ty (r := false) (by decide +kernel)
theorem kit_bool (d : PyData) : PySem.W.kitOne K (tyP d) (.type "bool") = some (pBool d) := by cases d <;> first | exact kit_ty (r := true) (by decide +kernel) | exact kit_ty (r := false) (by decide +kernel)
theorem kit_str (d : PyData) : PySem.W.kitOne K (tyP d) (.type "str") = some (pStr d) := by cases d <;> first | exact kit_ty (r := true) (by decide +kernel) | exact kit_ty (r := false) (by decide +kernel)
theorem kit_tuple (d : PyData) : PySem.W.kitOne K (tyP d) (.type "tuple") = some (pTup d) := by cases d <;> first | exact kit_ty (r := true) (by decide +kernel) | exact kit_ty (r := false) (by decide +kernel)
theorem kit_list (d : PyData) : PySem.W.kitOne K (tyP d) (.type "list") = some (pLst d) := by cases d <;> first | exact kit_ty (r := true) (by decide +kernel) | exact kit_ty (r := false) (by decide +kernel)
theorem kit_dict (d : PyData) : PySem.W.kitOne K (tyP d) (.type "dict") = some (pDct d) := by cases d <;> first | exact kit_ty (r := true) (by decide +kernel) | exact kit_ty (r := false) (by decide +kernel)
theorem kit_lt (d : PyData) : PySem.W.kitAny K (tyP d) [.type "list", .type "tuple"] = some (pLst d || pTup d) :=
  kitAny_cons (kit_list d) (fun h => kitAny_cons (r := pLst d || pTup d) (kit_tuple d) (fun h2 => by rw [h, h2] <;> rfl) fun h2 => by rw [h, h2] <;> rfl) fun h => by rw [h] <;> rfl
theorem lt_or {d : PyData} (h : (!(pLst d || pTup d)) = false) : (∃ ds, d = .list ds) ∨ ∃ ds, d = .tuple ds := by
  cases d <;> first | exact .inl ⟨_, rfl⟩ | exact .inr ⟨_, rfl⟩ | cases h
end
end GL
namespace K99
open PySem PySem.Spec PyProof.Rows L2 GL
def topS (i : Nat) : Stmt := PySem.Challenge.pw_letstand_k99_planned_roads_judged.main.body.getD i (.Pass ⟨0, 0, 0, 0⟩)
structure Txt (mg : Str → Option Value) : Prop where
  len_ : mg "len" = none
  sum_ : mg "sum" = none
  all_ : mg "all" = none
  sorted_ : mg "sorted" = none
  min_ : mg "min" = none
  max_ : mg "max" = none
  list_ : mg "list" = none
  tuple_ : mg "tuple" = none
  int_ : mg "int" = none
  bool_ : mg "bool" = none
  str_ : mg "str" = none
  dict_ : mg "dict" = none
  range_ : mg "range" = none
  enumerate_ : mg "enumerate" = none
  zip_ : mg "zip" = none
  isinstance_ : mg "isinstance" = none
/-- a def as it stands behind the top -/
def DefF (K : PySem.W.Frag) (mg : Str → Option Value) (x : Str) (st : Stmt) (ps : List Str) : Prop := ∃ (f : Addr) (fd : FuncData), Fun K x x st f fd ∧ mg x = some (.ref f) ∧ Binds K fd ps []
/-- a def that may be called -/
def Cal (P : Program) (w : World) (K : PySem.W.Frag) (mg : Str → Option Value) (base : Heap) (CX : CXT) (k : Nat) (x : Str) (ps : List Str) (sp : Sp) : Prop :=
  ∃ (f : Addr) (fd : FuncData), FnOk P w K mg base CX k f fd ps sp ∧ mg x = some (.ref f) ∧ PySem.W.keepIn K (.ref f) = true ∧ Binds K fd ps []
abbrev dI (ns : List Int) : PyData := .list (ns.map .int)
end K99

namespace K99
open PySem PySem.Spec PyProof.Rows L2 GL Gr
local macro_rules | `(tactic| walk_at "g") => `(tactic| first
  | (with_reducible refine gs_seq ?_)
  | (with_reducible refine gs_set ?_)
  | (with_reducible refine gs_ret ?_)
  | (with_reducible refine gs_if ?_)
  | (with_reducible refine gs_drop ?_)
  | (with_reducible refine gs_next ?_)
  | ((with_reducible refine ge_var (d := ?dv) ?hv ?pv); (case hv => exact rfl))
  | (with_reducible refine ge_int ?_)
  | (with_reducible refine ge_bl ?_)
  | (with_reducible refine ge_str ?_)
  | (with_reducible refine ge_non ?_)
  | (with_reducible refine ge_cat ?_)
  | (with_reducible refine ge_ov ?_)
  | (with_reducible refine og_ov ?_)
  | (with_reducible refine ge_chain3 ?_)
  | (with_reducible refine ge_listRg1 ?_)
  | (with_reducible refine ge_isi ?_)
  | (with_reducible refine ge_isi2 ?_)
  | (with_reducible refine ge_cb ?_)
  | (with_reducible refine ga_nil ?_)
  | (with_reducible refine ga_cons ?_)
  | (with_reducible refine ge_andV ?_)
  | (with_reducible refine ge_orV ?_)
  | (with_reducible refine ge_notV ?_)
  | (with_reducible refine ge_isN ?_)
  | (with_reducible refine ge_notN ?_)
  | (with_reducible refine ge_if ?_)
  | (with_reducible refine ge_tup ?_)
  | (with_reducible refine ge_lst ?_)
  | (with_reducible refine ge_slL ?_)
  | (with_reducible refine ge_slT ?_)
  | (with_reducible refine go_none ?_)
  | (with_reducible refine go_some ?_)
  | (with_reducible refine gt_test ?_)
  | (with_reducible refine gt_B ?_)
  | (with_reducible refine gt_and ?_)
  | (with_reducible refine gt_or ?_)
  | (with_reducible refine gt_not ?_)
  | (with_reducible refine gi_list ?_)
  | (with_reducible refine gi_tup ?_)
  | (with_reducible refine gi_rng1 ?_)
  | (with_reducible refine gi_rng2 ?_)
  | (with_reducible refine gi_rng3 ?_)
  | (with_reducible refine gi_enum ?_)
  | (with_reducible refine gi_zipT ?_)
  | (with_reducible refine gs_asg _ ?_)
  | (with_reducible refine gg_name (by decide) ?_)
  | ((with_reducible refine gg_tup ?hn ?hg); (case hn => exact rfl))
  | (with_reducible refine ggs_cons ?_)
  | (with_reducible refine ggs_nil ?_)
  | (with_reducible refine ge_append ?_)
  | (with_reducible refine ge_popAt ?_)
  | (with_reducible refine ge_dget ?_)
  | (with_reducible refine ge_din ?_)
  | (with_reducible refine ge_dnotin ?_)
  | (with_reducible refine gs_dput ?_)
  | (with_reducible refine ge_call ?_)
  | (with_reducible refine ge_callS ?_)
  | (refine ⟨_, ov_I0i, ?_⟩)
  | (refine ⟨_, ov_I0b, ?_⟩)
  | (refine ⟨_, ov_isin rfl, ?_⟩)
  | (refine ⟨_, ov_notin rfl, ?_⟩)
  | (refine ⟨_, ov_eq rfl, ?_⟩)
  | (refine ⟨_, ov_ne rfl, ?_⟩)
  | (refine cg_len (.inl rfl) ?_)
  | (refine cg_len (.inr rfl) ?_)
  | (refine ⟨_, ov_ixT rfl rfl, ?_⟩)
  | (refine ⟨_, ov_ixL rfl rfl, ?_⟩)
  | (refine ⟨_, ov_ixT rfl (atI_nat (j := 0) rfl), ?_⟩)
  | (refine ⟨_, ov_ixL rfl (atI_nat (j := 0) rfl), ?_⟩)
  | (refine ⟨_, ov_ixT rfl (atI_nat (j := 1) rfl), ?_⟩)
  | (refine ⟨_, ov_ixL rfl (atI_nat (j := 1) rfl), ?_⟩)
  | (refine ⟨_, ov_ixT rfl (atI_nat (j := 2) rfl), ?_⟩)
  | (refine ⟨_, ov_ixL rfl (atI_nat (j := 2) rfl), ?_⟩)
  | (refine ⟨_, ov_ixT rfl (atI_nat (j := 3) rfl), ?_⟩)
  | (refine ⟨_, ov_ixL rfl (atI_nat (j := 3) rfl), ?_⟩)
  | (refine ⟨_, _, rfl, kit_int _, ?_⟩)
  | (refine ⟨_, _, rfl, kit_bool _, ?_⟩)
  | (refine ⟨_, _, rfl, kit_str _, ?_⟩)
  | (refine ⟨_, _, rfl, kit_tuple _, ?_⟩)
  | (refine ⟨_, _, rfl, kit_list _, ?_⟩)
  | (refine ⟨_, _, rfl, kit_dict _, ?_⟩)
  | (refine ⟨_, _, rfl, kit_lt _, ?_⟩)
  | (refine ⟨_, rfl, ?_⟩))
local macro_rules | `(tactic| walk_at "t") => `(tactic| first
  | (with_reducible refine gg_name (by decide) ?_)
  | ((with_reducible refine gg_tup ?hn ?hg); (case hn => exact rfl))
  | (with_reducible refine ggs_cons ?_)
  | (with_reducible refine ggs_nil ?_))

section
variable {P : Program} {w : World} {K : PySem.W.Frag} {mg : Str → Option Value} {base : Heap}
abbrev s_is_whole : Stmt := topS 8
theorem sc_is_whole : FnScope ["thing"] ["thing"] (defScope s_is_whole) := ⟨rfl, rfl, rfl, by decide +kernel, rfl, by decide +kernel, by decide +kernel⟩
abbrev spWhole : Sp := GSp false (fun d : PyData => [.dat d]) (fun _ => True) fun d r => r = .dat (.bool (isWh d))
theorem cal_is_whole (D : DefF K mg "is_whole" s_is_whole ["thing"]) (T : Txt mg) : Cal P w K mg base CX0 1 "is_whole" ["thing"] spWhole := by
  obtain ⟨f, fd, F, g, b⟩ := D
  refine ⟨f, fd, F.ok sc_is_whole (gsp_len fun _ => rfl) (fun cdv A outer s H vs Q E hr h => ?_), g, F.kp, b⟩
  refine ⟨_, (pss_one (ps_ret (pe_and (pe_callB (k_isi (K := K) rfl) (by rfl) T.isinstance_ (by decide +kernel) (pa_cons (pv 0) (pa_cons (pe_bltn (v := .ty "int") (by rfl) T.int_ (by decide +kernel) rfl) pa_nil))) (pe_one (pe_not (pe_callB (k_isi (K := K) rfl) (by rfl) T.isinstance_ (by decide +kernel) (pa_cons (pv 0) (pa_cons (pe_bltn (v := .ty "bool") (by rfl) T.bool_ (by decide +kernel) rfl) pa_nil)))))))), ?_⟩
  refine gsp_body (n := 1) (m := 0) (fun _ => rfl) rfl (fun d _ => ?_) vs H Q E h
  repeat walk_at "g"
  refine ⟨fun h1 => ?_, fun h1 => ?_⟩
  · repeat walk_at "g"
    exact rt_d (by cases d <;> first | rfl | cases h1)
  · exact rt_d (by cases d <;> first | rfl | cases h1)
abbrev s_is_listed : Stmt := topS 9
theorem sc_is_listed : FnScope ["thing"] ["thing"] (defScope s_is_listed) := ⟨rfl, rfl, rfl, by decide +kernel, rfl, by decide +kernel, by decide +kernel⟩
abbrev spListed : Sp := GSp false (fun d : PyData => [.dat d]) (fun _ => True) fun d r => r = .dat (.bool (pLst d || pTup d))
theorem cal_is_listed (D : DefF K mg "is_listed" s_is_listed ["thing"]) (T : Txt mg) : Cal P w K mg base CX0 1 "is_listed" ["thing"] spListed := by
  obtain ⟨f, fd, F, g, b⟩ := D
  refine ⟨f, fd, F.ok sc_is_listed (gsp_len fun _ => rfl) (fun cdv A outer s H vs Q E hr h => ?_), g, F.kp, b⟩
  refine ⟨_, (pss_one (ps_ret (pe_callB (k_isi2 (K := K) rfl) (by rfl) T.isinstance_ (by decide +kernel) (pa_cons (pv 0) (pa_cons (pe_tup (pa_cons (pe_bltn (v := .ty "list") (by rfl) T.list_ (by decide +kernel) rfl) (pa_cons (pe_bltn (v := .ty "tuple") (by rfl) T.tuple_ (by decide +kernel) rfl) pa_nil))) pa_nil))))), ?_⟩
  refine gsp_body (n := 1) (m := 0) (fun _ => rfl) rfl (fun d _ => ?_) vs H Q E h
  repeat walk_at "g"
  exact rt_d rfl
abbrev s_is_road_row : Stmt := topS 11
theorem sc_is_road_row : FnScope ["thing"] ["thing"] (defScope s_is_road_row) := ⟨rfl, rfl, rfl, by decide +kernel, rfl, by decide +kernel, by decide +kernel⟩
abbrev spRow : Sp := GSp false (fun d : PyData => [.dat d]) (fun _ => True) fun d r => r = .dat (.bool (asRoad d).isSome)
theorem pTup_tuple {d : PyData} (h : pTup d = true) : ∃ ds, d = .tuple ds := by cases d <;> first | exact ⟨_, rfl⟩ | cases h
theorem asRoad_not {d : PyData} (h : pTup d = false) : asRoad d = none := by cases d <;> first | rfl | cases h
theorem two_of {ds : List PyData} (h : decide ((ds.length : Int) = 2) = true) : ∃ x y, ds = [x, y] := by
  have := of_decide_eq_true h
  match ds, this with
  | [x, y], _ => exact ⟨x, y, rfl⟩
  | [], h => simp at h
  | [_], h => simp at h
  | _ :: _ :: _ :: _, h => simp at h; omega
theorem asRoad_two {ds : List PyData} (h : decide ((ds.length : Int) = 2) = false) : asRoad (.tuple ds) = none := by
  match ds, h with
  | [], _ => rfl
  | [_], _ => unfold asRoad; split <;> first | rfl | (rename_i e; cases e)
  | [x, y], h => cases h
  | x :: y :: z :: r, _ => unfold asRoad; split <;> first | rfl | (rename_i e; cases e)
theorem asRoad_pair (x y : PyData) : (asRoad (.tuple [x, y])).isSome = (isWh x && isWh y) := by cases x <;> cases y <;> rfl
theorem cal_is_road_row (D : DefF K mg "is_road_row" s_is_road_row ["thing"]) (T : Txt mg) (C : Cal P w K mg base CX0 1 "is_whole" ["thing"] spWhole) : Cal P w K mg base CX0 2 "is_road_row" ["thing"] spRow := by
  obtain ⟨f, fd, F, g, b⟩ := D
  obtain ⟨_, _, G_is_whole, g_is_whole, kp_is_whole, b_is_whole⟩ := C
  refine ⟨f, fd, F.ok sc_is_road_row (gsp_len fun _ => rfl) (fun cdv A outer s H vs Q E hr h => ?_), g, F.kp, b⟩
  refine ⟨_, (pss_one (ps_ret (pe_and (pe_callB (k_isi (K := K) rfl) (by rfl) T.isinstance_ (by decide +kernel) (pa_cons (pv 0) (pa_cons (pe_bltn (v := .ty "tuple") (by rfl) T.tuple_ (by decide +kernel) rfl) pa_nil))) (pe_and (pe_cmpR op_eq (pe_callB (k_len (K := K) rfl) (by rfl) T.len_ (by decide +kernel) (pa_cons (pv 0) pa_nil)) pe_int (nomark _)) (pe_and (pe_call G_is_whole (hr.mono (by decide)) (by rfl) g_is_whole kp_is_whole b_is_whole .nil pass0 (pa_cons (pe_ix (k_ixT (K := K) rfl) (pv 0) pe_int (fun _ _ => rfl)) pa_nil)) (pe_one (pe_call G_is_whole (hr.mono (by decide)) (by rfl) g_is_whole kp_is_whole b_is_whole .nil pass0 (pa_cons (pe_ix (k_ixT (K := K) rfl) (pv 0) pe_int (fun _ _ => rfl)) pa_nil)))))))), ?_⟩
  refine gsp_body (n := 1) (m := 0) (fun _ => rfl) rfl (fun d _ => ?_) vs H Q E h
  repeat walk_at "g"
  refine ⟨fun h1 => ?_, fun h1 => rt_d (by rw [asRoad_not h1] <;> rfl)⟩
  obtain ⟨ds, rfl⟩ := pTup_tuple h1
  repeat walk_at "g"
  refine ⟨fun h2 => ?_, fun h2 => rt_d (by rw [asRoad_two h2] <;> rfl)⟩
  obtain ⟨x, y, rfl⟩ := two_of h2
  repeat walk_at "g"
  refine ⟨x, .cons rfl .nil, trivial, ?_⟩
  rintro _ rfl
  refine rp_d ?_
  repeat walk_at "g"
  refine ⟨fun h3 => ?_, fun h3 => rt_d (by rw [asRoad_pair, h3] <;> rfl)⟩
  repeat walk_at "g"
  refine ⟨y, .cons rfl .nil, trivial, ?_⟩
  rintro _ rfl
  refine rp_d (rt_d ?_)
  rw [asRoad_pair, h3] <;> rfl
end
end K99

namespace K99
open PySem PySem.Spec PyProof.Rows L2 GL Gr
local macro_rules | `(tactic| walk_at "g") => `(tactic| first
  | (with_reducible refine gs_seq ?_)
  | (with_reducible refine gs_set ?_)
  | (with_reducible refine gs_ret ?_)
  | (with_reducible refine gs_if ?_)
  | (with_reducible refine gs_drop ?_)
  | (with_reducible refine gs_next ?_)
  | ((with_reducible refine ge_var (d := ?dv) ?hv ?pv); (case hv => exact rfl))
  | (with_reducible refine ge_int ?_)
  | (with_reducible refine ge_bl ?_)
  | (with_reducible refine ge_str ?_)
  | (with_reducible refine ge_non ?_)
  | (with_reducible refine ge_cat ?_)
  | (with_reducible refine ge_ov ?_)
  | (with_reducible refine og_ov ?_)
  | (with_reducible refine ge_chain3 ?_)
  | (with_reducible refine ge_listRg1 ?_)
  | (with_reducible refine ge_isi ?_)
  | (with_reducible refine ge_isi2 ?_)
  | (with_reducible refine ge_cb ?_)
  | (with_reducible refine ga_nil ?_)
  | (with_reducible refine ga_cons ?_)
  | (with_reducible refine ge_andV ?_)
  | (with_reducible refine ge_orV ?_)
  | (with_reducible refine ge_notV ?_)
  | (with_reducible refine ge_isN ?_)
  | (with_reducible refine ge_notN ?_)
  | (with_reducible refine ge_if ?_)
  | (with_reducible refine ge_tup ?_)
  | (with_reducible refine ge_lst ?_)
  | (with_reducible refine ge_slL ?_)
  | (with_reducible refine ge_slT ?_)
  | (with_reducible refine go_none ?_)
  | (with_reducible refine go_some ?_)
  | (with_reducible refine gt_test ?_)
  | (with_reducible refine gt_B ?_)
  | (with_reducible refine gt_and ?_)
  | (with_reducible refine gt_or ?_)
  | (with_reducible refine gt_not ?_)
  | (with_reducible refine gi_list ?_)
  | (with_reducible refine gi_tup ?_)
  | (with_reducible refine gi_rng1 ?_)
  | (with_reducible refine gi_rng2 ?_)
  | (with_reducible refine gi_rng3 ?_)
  | (with_reducible refine gi_enum ?_)
  | (with_reducible refine gi_zipT ?_)
  | (with_reducible refine gs_asg _ ?_)
  | (with_reducible refine gg_name (by decide) ?_)
  | ((with_reducible refine gg_tup ?hn ?hg); (case hn => exact rfl))
  | (with_reducible refine ggs_cons ?_)
  | (with_reducible refine ggs_nil ?_)
  | (with_reducible refine ge_append ?_)
  | (with_reducible refine ge_popAt ?_)
  | (with_reducible refine ge_dget ?_)
  | (with_reducible refine ge_din ?_)
  | (with_reducible refine ge_dnotin ?_)
  | (with_reducible refine gs_dput ?_)
  | (with_reducible refine ge_call ?_)
  | (with_reducible refine ge_callS ?_)
  | (refine ⟨_, ov_I0i, ?_⟩)
  | (refine ⟨_, ov_I0b, ?_⟩)
  | (refine ⟨_, ov_isin rfl, ?_⟩)
  | (refine ⟨_, ov_notin rfl, ?_⟩)
  | (refine ⟨_, ov_eq rfl, ?_⟩)
  | (refine ⟨_, ov_ne rfl, ?_⟩)
  | (refine cg_len (.inl rfl) ?_)
  | (refine cg_len (.inr rfl) ?_)
  | (refine ⟨_, ov_ixT rfl rfl, ?_⟩)
  | (refine ⟨_, ov_ixL rfl rfl, ?_⟩)
  | (refine ⟨_, ov_ixT rfl (atI_nat (j := 0) rfl), ?_⟩)
  | (refine ⟨_, ov_ixL rfl (atI_nat (j := 0) rfl), ?_⟩)
  | (refine ⟨_, ov_ixT rfl (atI_nat (j := 1) rfl), ?_⟩)
  | (refine ⟨_, ov_ixL rfl (atI_nat (j := 1) rfl), ?_⟩)
  | (refine ⟨_, ov_ixT rfl (atI_nat (j := 2) rfl), ?_⟩)
  | (refine ⟨_, ov_ixL rfl (atI_nat (j := 2) rfl), ?_⟩)
  | (refine ⟨_, ov_ixT rfl (atI_nat (j := 3) rfl), ?_⟩)
  | (refine ⟨_, ov_ixL rfl (atI_nat (j := 3) rfl), ?_⟩)
  | (refine ⟨_, _, rfl, kit_int _, ?_⟩)
  | (refine ⟨_, _, rfl, kit_bool _, ?_⟩)
  | (refine ⟨_, _, rfl, kit_str _, ?_⟩)
  | (refine ⟨_, _, rfl, kit_tuple _, ?_⟩)
  | (refine ⟨_, _, rfl, kit_list _, ?_⟩)
  | (refine ⟨_, _, rfl, kit_dict _, ?_⟩)
  | (refine ⟨_, _, rfl, kit_lt _, ?_⟩)
  | (refine ⟨_, rfl, ?_⟩))
local macro_rules | `(tactic| walk_at "t") => `(tactic| first
  | (with_reducible refine gg_name (by decide) ?_)
  | ((with_reducible refine gg_tup ?hn ?hg); (case hn => exact rfl))
  | (with_reducible refine ggs_cons ?_)
  | (with_reducible refine ggs_nil ?_))

section
variable {P : Program} {w : World} {K : PySem.W.Frag} {mg : Str → Option Value} {base : Heap}
abbrev s_road_weight : Stmt := topS 14
theorem sc_road_weight : FnScope ["sets", "a", "b", "members"] ["sets", "a", "b"] (defScope s_road_weight) := ⟨rfl, rfl, rfl, by decide +kernel, rfl, by decide +kernel, by decide +kernel⟩
abbrev spWeight : Sp := GSp false (fun x : List (List Int) × Int × Int => [.bor (x.1.map dI), .dat (.int x.2.1), .dat (.int x.2.2)]) (fun x => x.1.length < 1000) fun x r => r = .dat (.int (wt x.1 x.2.1 x.2.2))
theorem cal_road_weight (D : DefF K mg "road_weight" s_road_weight ["sets", "a", "b"]) (T : Txt mg) : Cal P w K mg base CX0 1 "road_weight" ["sets", "a", "b"] spWeight := by
  obtain ⟨f, fd, F, g, b⟩ := D
  refine ⟨f, fd, F.ok sc_road_weight (gsp_len (n := 3) fun _ => rfl) (fun cdv A outer s H vs Q E hr h => ?_), g, F.kp, b⟩
  refine ⟨_, (pss_one (ps_ret (pe_callB (k_len (K := K) rfl) (by rfl) T.len_ (by decide +kernel) (pa_cons (pe_lc (own := [("members", 3)]) (by rfl) sc_road_weight.nd (k_pil (K := K) rfl (pv 0)) (blkOk_by (own := [("members", 3)]) (N := ["sets", "a", "b", "members"]) (sc := defScope s_road_weight) (by decide +kernel)) (fun _ _ _ _ _ => (pg_name (i := 3) sc_road_weight.nd rfl (Or.inl rfl))) (fun _ _ _ _ _ => (pts_one (PW.pt (pw_and (pt_cmpR (k_in (K := K) rfl) (pv 1) (pv 3) rfl) (pw_and1 (pt_cmpR (k_in (K := K) rfl) (pv 2) (pv 3) rfl)))))) (fun _ _ _ _ _ => (pv 3))) pa_nil)))), ?_⟩
  refine gsp_body (n := 3) (m := 1) (fun _ => rfl) rfl (fun x hx => ?_) vs H Q E h
  obtain ⟨ss, a, b⟩ := x
  dsimp only at hx ⊢
  repeat walk_at "g"
  with_reducible refine ge_lcFilt ss dI (fun m => decide (a ∈ m) && decide (b ∈ m)) dI ?_
  repeat walk_at "g"
  refine ⟨rfl, rfl, Nat.lt_trans hx (by decide), fun m _ => ?_, ?_⟩
  · repeat walk_at "g"
    refine ⟨fun h1 => ?_, fun h1 => ⟨by rw [h1] <;> rfl, PreM.rf _, fun z => by rw [h1] at z; cases z⟩⟩
    repeat walk_at "g"
    refine ⟨by rw [h1] <;> rfl, PreM.rf _, fun h2 => ?_⟩
    repeat walk_at "g"
    exact ⟨PreM.rf _, rfl⟩
  · repeat walk_at "g"
    refine rt_d ?_
    rw [List.length_map] <;> rfl
abbrev s__law_e_weight : Stmt := topS 28
theorem sc__law_e_weight : FnScope ["sets", "a", "b", "members"] ["sets", "a", "b"] (defScope s__law_e_weight) := ⟨rfl, rfl, rfl, by decide +kernel, rfl, by decide +kernel, by decide +kernel⟩
theorem cal__law_e_weight (D : DefF K mg "_law_e_weight" s__law_e_weight ["sets", "a", "b"]) (T : Txt mg) : Cal P w K mg base CX0 1 "_law_e_weight" ["sets", "a", "b"] spWeight := by
  obtain ⟨f, fd, F, g, b⟩ := D
  refine ⟨f, fd, F.ok sc__law_e_weight (gsp_len (n := 3) fun _ => rfl) (fun cdv A outer s H vs Q E hr h => ?_), g, F.kp, b⟩
  refine ⟨_, (pss_one (ps_ret (pe_callB (k_len (K := K) rfl) (by rfl) T.len_ (by decide +kernel) (pa_cons (pe_lc (own := [("members", 3)]) (by rfl) sc__law_e_weight.nd (k_pil (K := K) rfl (pv 0)) (blkOk_by (own := [("members", 3)]) (N := ["sets", "a", "b", "members"]) (sc := defScope s__law_e_weight) (by decide +kernel)) (fun _ _ _ _ _ => (pg_name (i := 3) sc__law_e_weight.nd rfl (Or.inl rfl))) (fun _ _ _ _ _ => (pts_one (PW.pt (pw_and (pt_cmpR (k_in (K := K) rfl) (pv 1) (pv 3) rfl) (pw_and1 (pt_cmpR (k_in (K := K) rfl) (pv 2) (pv 3) rfl)))))) (fun _ _ _ _ _ => (pv 3))) pa_nil)))), ?_⟩
  refine gsp_body (n := 3) (m := 1) (fun _ => rfl) rfl (fun x hx => ?_) vs H Q E h
  obtain ⟨ss, a, b⟩ := x
  dsimp only at hx ⊢
  repeat walk_at "g"
  with_reducible refine ge_lcFilt ss dI (fun m => decide (a ∈ m) && decide (b ∈ m)) dI ?_
  repeat walk_at "g"
  refine ⟨rfl, rfl, Nat.lt_trans hx (by decide), fun m _ => ?_, ?_⟩
  · repeat walk_at "g"
    refine ⟨fun h1 => ?_, fun h1 => ⟨by rw [h1] <;> rfl, PreM.rf _, fun z => by rw [h1] at z; cases z⟩⟩
    repeat walk_at "g"
    refine ⟨by rw [h1] <;> rfl, PreM.rf _, fun h2 => ?_⟩
    repeat walk_at "g"
    exact ⟨PreM.rf _, rfl⟩
  · repeat walk_at "g"
    refine rt_d ?_
    rw [List.length_map] <;> rfl
abbrev s_hangs_together : Stmt := topS 13
theorem sc_hangs_together : FnScope ["members", "roads", "within", "road"] ["members", "roads"] (defScope s_hangs_together) := ⟨rfl, rfl, rfl, by decide +kernel, rfl, by decide +kernel, by decide +kernel⟩
abbrev spHangs : Sp := GSp false (fun x : List Int × List Road => [.bor (x.1.map .int), .bor (x.2.map prP)]) (fun x => x.2.length < 1000) fun x r => r = .dat (.bool (decide ((within x.2 x.1).length + 1 = x.1.length)))
theorem cal_hangs_together (D : DefF K mg "hangs_together" s_hangs_together ["members", "roads"]) (T : Txt mg) : Cal P w K mg base CX0 1 "hangs_together" ["members", "roads"] spHangs := by
  obtain ⟨f, fd, F, g, b⟩ := D
  refine ⟨f, fd, F.ok sc_hangs_together (gsp_len (n := 2) fun _ => rfl) (fun cdv A outer s H vs Q E hr h => ?_), g, F.kp, b⟩
  refine ⟨_, (pss_cons (ps_setLc (i := 2) (own := [("road", 3)]) (by rfl) sc_hangs_together.nd rfl rfl (sw_true rfl rfl rfl (by decide +kernel)) (k_pil (K := K) rfl (pv 1)) (blkOk_by (own := [("road", 3)]) (N := ["members", "roads", "within", "road"]) (sc := defScope s_hangs_together) (by decide +kernel)) (fun _ _ _ _ _ => (pg_name (i := 3) sc_hangs_together.nd rfl (Or.inl rfl))) (fun _ _ _ _ _ => (pts_one (PW.pt (pw_and (pt_cmpR (k_in (K := K) rfl) (pe_ix (k_ixT (K := K) rfl) (pv 3) pe_int (fun _ _ => rfl)) (pv 0) rfl) (pw_and1 (pt_cmpR (k_in (K := K) rfl) (pe_ix (k_ixT (K := K) rfl) (pv 3) pe_int (fun _ _ => rfl)) (pv 0) rfl)))))) (fun _ _ _ _ _ => (pv 3))) (pss_one (ps_ret (pe_cmpR op_eq (pe_callB (k_len (K := K) rfl) (by rfl) T.len_ (by decide +kernel) (pa_cons (pv 2) pa_nil)) (pe_op op_sub (pe_callB (k_len (K := K) rfl) (by rfl) T.len_ (by decide +kernel) (pa_cons (pv 0) pa_nil)) pe_int) (nomark _))))), ?_⟩
  refine gsp_body (n := 2) (m := 2) (fun _ => rfl) rfl (fun x hx => ?_) vs H Q E h
  obtain ⟨ns, rs⟩ := x
  dsimp only at hx ⊢
  repeat walk_at "g"
  with_reducible refine ge_lcFilt rs prP (fun r => decide (r.1 ∈ ns) && decide (r.2 ∈ ns)) prP ?_
  repeat walk_at "g"
  refine ⟨rfl, rfl, Nat.lt_trans hx (by decide), fun r _ => ?_, ?_⟩
  · repeat walk_at "g"
    refine ⟨fun h1 => ?_, fun h1 => ⟨by rw [h1] <;> rfl, PreM.rf _, fun z => by rw [h1] at z; cases z⟩⟩
    repeat walk_at "g"
    refine ⟨by rw [h1] <;> rfl, PreM.rf _, fun h2 => ?_⟩
    repeat walk_at "g"
    exact ⟨PreM.rf _, rfl⟩
  · repeat walk_at "g"
    refine rt_d ?_
    rw [List.length_map, List.length_map]
    refine congrArg (fun b => Rs.dat (.bool b)) ?_
    show decide (((within rs ns).length : Int) = (ns.length : Int) - 1) = decide ((within rs ns).length + 1 = ns.length)
    exact decide_eq_decide.2 (by omega)
abbrev s__law_e_is_roads : Stmt := topS 27
theorem sc__law_e_is_roads : FnScope ["thing", "one", "end"] ["thing"] (defScope s__law_e_is_roads) := ⟨rfl, rfl, rfl, by decide +kernel, rfl, by decide +kernel, by decide +kernel⟩
abbrev spIsRoads : Sp := GSp false (fun d : PyData => [.dat d]) (fun d => ∀ ds, d = .list ds ∨ d = .tuple ds → ds.length < 1000) fun d r => r = .dat (.bool (rowsOf d).isSome)
theorem cal__law_e_is_roads (D : DefF K mg "_law_e_is_roads" s__law_e_is_roads ["thing"]) (T : Txt mg) : Cal P w K mg base CX0 1 "_law_e_is_roads" ["thing"] spIsRoads := by
  obtain ⟨f, fd, F, g, b⟩ := D
  refine ⟨f, fd, F.ok sc__law_e_is_roads (gsp_len (n := 1) fun _ => rfl) (fun cdv A outer s H vs Q E hr h => ?_), g, F.kp, b⟩
  refine ⟨_, (pss_cons (ps_if (pt_not (pt_val (pe_callB (k_isi2 (K := K) rfl) (by rfl) T.isinstance_ (by decide +kernel) (pa_cons (pv 0) (pa_cons (pe_tup (pa_cons (pe_bltn (v := .ty "list") (by rfl) T.list_ (by decide +kernel) rfl) (pa_cons (pe_bltn (v := .ty "tuple") (by rfl) T.tuple_ (by decide +kernel) rfl) pa_nil))) pa_nil))))) (pss_one (ps_ret pe_bl)) pss_nil) (pss_one (ps_ret (pe_callB (k_all (K := K) rfl rfl) (by rfl) T.all_ (by decide +kernel) (pa_cons (pe_lc (own := [("one", 1)]) (by rfl) sc__law_e_is_roads.nd (k_piq (K := K) rfl (pv 0)) (blkOk_by (own := [("one", 1)]) (N := ["thing", "one", "end"]) (sc := defScope s__law_e_is_roads) (by decide +kernel)) (fun _ _ _ _ _ => (pg_name (i := 1) sc__law_e_is_roads.nd rfl (Or.inl rfl))) (fun _ _ _ _ _ => pts_nil) (fun _ _ _ _ _ => (pe_and (pe_callB (k_isi (K := K) rfl) (by rfl) T.isinstance_ (by decide +kernel) (pa_cons (pv 1) (pa_cons (pe_bltn (v := .ty "tuple") (by rfl) T.tuple_ (by decide +kernel) rfl) pa_nil))) (pe_and (pe_cmpR op_eq (pe_callB (k_len (K := K) rfl) (by rfl) T.len_ (by decide +kernel) (pa_cons (pv 1) pa_nil)) pe_int (nomark _)) (pe_one (pe_callB (k_all (K := K) rfl rfl) (by rfl) T.all_ (by decide +kernel) (pa_cons (pe_lc (own := [("end", 2)]) (by rfl) sc__law_e_is_roads.nd (k_pit (K := K) rfl (pv 1)) (blkOk_by (own := [("end", 2)]) (by rfl)) (fun _ _ _ _ _ => (pg_name (i := 2) sc__law_e_is_roads.nd rfl (Or.inl rfl))) (fun _ _ _ _ _ => pts_nil) (fun _ _ _ _ _ => (pe_and (pe_callB (k_isi (K := K) rfl) (by rfl) T.isinstance_ (by decide +kernel) (pa_cons (pv 2) (pa_cons (pe_bltn (v := .ty "int") (by rfl) T.int_ (by decide +kernel) rfl) pa_nil))) (pe_one (pe_not (pe_callB (k_isi (K := K) rfl) (by rfl) T.isinstance_ (by decide +kernel) (pa_cons (pv 2) (pa_cons (pe_bltn (v := .ty "bool") (by rfl) T.bool_ (by decide +kernel) rfl) pa_nil)))))))) pa_nil))))))) pa_nil))))), ?_⟩
  refine gsp_body (n := 1) (m := 2) (fun _ => rfl) rfl (fun d hd => ?_) vs H Q E h
  repeat walk_at "g"
  refine ⟨fun h1 => ?_, fun h1 => ?_⟩
  · repeat walk_at "g"
    refine rt_d ?_
    cases d <;> first | rfl | cases h1
  · repeat walk_at "g"
    have hl : (itemsOf d).length < 1000 := by
      rcases lt_or h1 with ⟨ds, rfl⟩ | ⟨ds, rfl⟩
      · exact hd ds (.inl rfl)
      · exact hd ds (.inr rfl)
    have hrow : rowsOf d = asRoads (itemsOf d) := rowsOf_items (lt_or h1)
    with_reducible refine ge_lcMap (T := PyData) (itemsOf d) (fun x => x) (fun x => .bool (asRoad x).isSome) ?_
    with_reducible refine gi_seq ?_
    repeat walk_at "g"
    have body : (∀ x ∈ itemsOf d, GG (gName 1) (List.map (fun x => x.snd) [(Str.ofString "one", 1)]) (D.dat x) (wipeG (ini false [Ar.dat d] 2) (List.map (fun x => x.snd) [(Str.ofString "one", 1)])) fun Γ2 =>
        GE (tAndV (tCB (rIsi K) (tCons (tVar 1) (tCons (tC (V.ty "tuple")) tNil))) (tAndV (tOp rEq (tCB (rLen' K) (tCons (tVar 1) tNil)) (tC (V.int 2)))
          (tCB (rAll K) (tCons (tLc (iTup K (tVar 1)) (gName 2) tYes (tAndV (tCB (rIsi K) (tCons (tVar 2) (tCons (tC (V.ty "int")) tNil))) (tNotV (tCB (rIsi K) (tCons (tVar 2) (tCons (tC (V.ty "bool")) tNil))))) (List.map (fun x => x.snd) [(Str.ofString "end", 2)])) tNil))))
          Γ2 (inM false [Ar.dat d]) fun y M4 => PreM (inM false [Ar.dat d]) M4 ∧ asDat (inM false [Ar.dat d]).length M4 y (PyData.bool (asRoad x).isSome)) := by
      intro x _
      repeat walk_at "g"
      refine ⟨fun h1 => ?_, fun h1 => ⟨PreM.rf _, by rw [asRoad_not h1] <;> rfl⟩⟩
      obtain ⟨ds, e⟩ := pTup_tuple h1
      have e : x = .tuple ds := e
      subst e
      repeat walk_at "g"
      refine ⟨fun h2 => ?_, fun h2 => ⟨PreM.rf _, by rw [asRoad_two h2] <;> rfl⟩⟩
      obtain ⟨x, y, rfl⟩ := two_of h2
      repeat walk_at "g"
      with_reducible refine ge_lcMap (T := PyData) [x, y] (fun x => x) (fun x => .bool (isWh x)) ?_
      repeat walk_at "g"
      refine ⟨trivial, rfl, (show 2 < 100000 by decide), fun z _ => ?_, ?_⟩
      · repeat walk_at "g"
        refine ⟨fun h3 => ?_, fun h3 => ⟨PreM.rf _, ?_⟩⟩
        · repeat walk_at "g"
          refine ⟨PreM.rf _, ?_⟩
          cases z <;> first | rfl | cases h3
        · cases z <;> first | rfl | cases h3
      · repeat walk_at "g"
        refine cg_all (ns := [isWh x, isWh y]) rfl ?_
        refine ⟨PreM.app _ _, ?_⟩
        show PyData.bool (asRoad (.tuple [x, y])).isSome = PyData.bool ([isWh x, isWh y].all id)
        rw [asRoad_pair]
        cases isWh x <;> cases isWh y <;> rfl
    rcases lt_or h1 with ⟨ds, rfl⟩ | ⟨ds, rfl⟩
    · refine ⟨ds, .inl ⟨rfl, rfl, (List.map_id' _).symm, Nat.lt_trans hl (by decide), body, ?_⟩⟩
      repeat walk_at "g"
      refine cg_all (ns := ds.map fun x => (asRoad x).isSome) ?_ ?_
      · show some _ = some _
        rw [List.map_map] <;> rfl
      · refine rt_d ?_
        rw [hrow, asRoads_all] <;> rfl
    · refine ⟨ds, .inr ⟨rfl, trivial, (List.map_id' _).symm, Nat.lt_trans hl (by decide), body, ?_⟩⟩
      repeat walk_at "g"
      refine cg_all (ns := ds.map fun x => (asRoad x).isSome) ?_ ?_
      · show some _ = some _
        rw [List.map_map] <;> rfl
      · refine rt_d ?_
        rw [hrow, asRoads_all] <;> rfl
end
end K99

namespace K99
open PySem PySem.Spec PyProof.Rows L2 GL Gr
local macro_rules | `(tactic| walk_at "g") => `(tactic| first
  | (with_reducible refine gs_seq ?_)
  | (with_reducible refine gs_set ?_)
  | (with_reducible refine gs_ret ?_)
  | (with_reducible refine gs_if ?_)
  | (with_reducible refine gs_drop ?_)
  | (with_reducible refine gs_next ?_)
  | ((with_reducible refine ge_var (d := ?dv) ?hv ?pv); (case hv => exact rfl))
  | (with_reducible refine ge_int ?_)
  | (with_reducible refine ge_bl ?_)
  | (with_reducible refine ge_str ?_)
  | (with_reducible refine ge_non ?_)
  | (with_reducible refine ge_cat ?_)
  | (with_reducible refine ge_ov ?_)
  | (with_reducible refine og_ov ?_)
  | (with_reducible refine ge_chain3 ?_)
  | (with_reducible refine ge_listRg1 ?_)
  | (with_reducible refine ge_isi ?_)
  | (with_reducible refine ge_isi2 ?_)
  | (with_reducible refine ge_cb ?_)
  | (with_reducible refine ga_nil ?_)
  | (with_reducible refine ga_cons ?_)
  | (with_reducible refine ge_andV ?_)
  | (with_reducible refine ge_orV ?_)
  | (with_reducible refine ge_notV ?_)
  | (with_reducible refine ge_isN ?_)
  | (with_reducible refine ge_notN ?_)
  | (with_reducible refine ge_if ?_)
  | (with_reducible refine ge_tup ?_)
  | (with_reducible refine ge_lst ?_)
  | (with_reducible refine ge_slL ?_)
  | (with_reducible refine ge_slT ?_)
  | (with_reducible refine go_none ?_)
  | (with_reducible refine go_some ?_)
  | (with_reducible refine gt_test ?_)
  | (with_reducible refine gt_B ?_)
  | (with_reducible refine gt_and ?_)
  | (with_reducible refine gt_or ?_)
  | (with_reducible refine gt_not ?_)
  | (with_reducible refine gi_list ?_)
  | (with_reducible refine gi_tup ?_)
  | (with_reducible refine gi_rng1 ?_)
  | (with_reducible refine gi_rng2 ?_)
  | (with_reducible refine gi_rng3 ?_)
  | (with_reducible refine gi_enum ?_)
  | (with_reducible refine gi_zipT ?_)
  | (with_reducible refine gs_asg _ ?_)
  | (with_reducible refine gg_name (by decide) ?_)
  | ((with_reducible refine gg_tup ?hn ?hg); (case hn => exact rfl))
  | (with_reducible refine ggs_cons ?_)
  | (with_reducible refine ggs_nil ?_)
  | (with_reducible refine ge_append ?_)
  | (with_reducible refine ge_popAt ?_)
  | (with_reducible refine ge_dget ?_)
  | (with_reducible refine ge_din ?_)
  | (with_reducible refine ge_dnotin ?_)
  | (with_reducible refine gs_dput ?_)
  | (with_reducible refine ge_call ?_)
  | (with_reducible refine ge_callS ?_)
  | (refine ⟨_, ov_I0i, ?_⟩)
  | (refine ⟨_, ov_I0b, ?_⟩)
  | (refine ⟨_, ov_isin rfl, ?_⟩)
  | (refine ⟨_, ov_notin rfl, ?_⟩)
  | (refine ⟨_, ov_eq rfl, ?_⟩)
  | (refine ⟨_, ov_ne rfl, ?_⟩)
  | (refine cg_len (.inl rfl) ?_)
  | (refine cg_len (.inr rfl) ?_)
  | (refine ⟨_, ov_ixT rfl rfl, ?_⟩)
  | (refine ⟨_, ov_ixL rfl rfl, ?_⟩)
  | (refine ⟨_, ov_ixT rfl (atI_nat (j := 0) rfl), ?_⟩)
  | (refine ⟨_, ov_ixL rfl (atI_nat (j := 0) rfl), ?_⟩)
  | (refine ⟨_, ov_ixT rfl (atI_nat (j := 1) rfl), ?_⟩)
  | (refine ⟨_, ov_ixL rfl (atI_nat (j := 1) rfl), ?_⟩)
  | (refine ⟨_, ov_ixT rfl (atI_nat (j := 2) rfl), ?_⟩)
  | (refine ⟨_, ov_ixL rfl (atI_nat (j := 2) rfl), ?_⟩)
  | (refine ⟨_, ov_ixT rfl (atI_nat (j := 3) rfl), ?_⟩)
  | (refine ⟨_, ov_ixL rfl (atI_nat (j := 3) rfl), ?_⟩)
  | (refine ⟨_, _, rfl, kit_int _, ?_⟩)
  | (refine ⟨_, _, rfl, kit_bool _, ?_⟩)
  | (refine ⟨_, _, rfl, kit_str _, ?_⟩)
  | (refine ⟨_, _, rfl, kit_tuple _, ?_⟩)
  | (refine ⟨_, _, rfl, kit_list _, ?_⟩)
  | (refine ⟨_, _, rfl, kit_dict _, ?_⟩)
  | (refine ⟨_, _, rfl, kit_lt _, ?_⟩)
  | (refine ⟨_, rfl, ?_⟩))
local macro_rules | `(tactic| walk_at "t") => `(tactic| first
  | (with_reducible refine gg_name (by decide) ?_)
  | ((with_reducible refine gg_tup ?hn ?hg); (case hn => exact rfl))
  | (with_reducible refine ggs_cons ?_)
  | (with_reducible refine ggs_nil ?_))

theorem len_sub : ∀ {xs ys : List Int}, xs.Nodup → ys.Nodup → (∀ x ∈ xs, x ∈ ys) → xs.length ≤ ys.length
  | [], _, _, _, _ => Nat.zero_le _
  | x :: xs, ys, nx, ny, h => by
    have hx := h x List.mem_cons_self
    have ih := len_sub (xs := xs) (ys := ys.erase x) (List.nodup_cons.1 nx).2 (ny.erase x) fun y hy => (List.mem_erase_of_ne fun (e : y = x) => (List.nodup_cons.1 nx).1 (e ▸ hy)).2 (h y (List.mem_cons_of_mem _ hy))
    rw [List.length_erase_of_mem hx] at ih
    have := List.length_pos_of_mem hx
    rw [List.length_cons]
    omega
theorem mem_of_len {xs ys : List Int} (nx : xs.Nodup) (ny : ys.Nodup) (h : ∀ x ∈ xs, x ∈ ys) (e : xs.length = ys.length) {y : Int} (hy : y ∈ ys) : y ∈ xs := by
  apply Classical.byContradiction
  intro z
  have := len_sub (xs := y :: xs) (ys := ys) (List.nodup_cons.2 ⟨z, nx⟩) ny fun x hx => by
    rcases List.mem_cons.1 hx with e | hx
    · rw [e]; exact hy
    · exact h x hx
  rw [List.length_cons] at this
  omega
section
variable {P : Program} {w : World} {K : PySem.W.Frag} {mg : Str → Option Value} {base : Heap}
abbrev s__law_reach : Stmt := topS 26
theorem sc__law_reach : FnScope ["roads", "start", "found", "turn", "one", "other"] ["roads", "start"] (defScope s__law_reach) := ⟨rfl, rfl, rfl, by decide +kernel, rfl, by decide +kernel, by decide +kernel⟩
abbrev spReach : Sp := GSp false (fun x : List Road × Int => [.bor (x.1.map prP), .dat (.int x.2)]) (fun x => x.1.length ≤ 40) fun x r => ∃ ms : List Int, r = .new (.lst (ms.map .int)) ∧ ms.Nodup ∧ ∀ b, b ∈ ms ↔ Conn x.1 x.2 b
/-- between the turns -/
def JR (rs : List Road) (st : Int) (Pf : List Int → Prop) (Γ : Sl) (M : List MO) : Prop := ∃ fs t o1 o2, Γ = [some (.ref 0), some (.dat (.int st)), some (.ref 1), t, o1, o2] ∧ M = [.bor (rs.map prP), .lst (fs.map .int)] ∧ Reach rs st fs ∧ Pf fs
theorem cal__law_reach (D : DefF K mg "_law_reach" s__law_reach ["roads", "start"]) (T : Txt mg) : Cal P w K mg base CX0 1 "_law_reach" ["roads", "start"] spReach := by
  obtain ⟨f, fd, F, g, b⟩ := D
  refine ⟨f, fd, F.ok sc__law_reach (gsp_len (n := 2) fun _ => rfl) (fun cdv A outer s H vs Q E hr h => ?_), g, F.kp, b⟩
  refine ⟨_, (pss_cons (ps_set (i := 2) sc__law_reach.nd rfl (Or.inl rfl) (pe_lst (pa_cons (pv 1) pa_nil))) (pss_cons (ps_for PassesOwn.never rfl (pi_range1 (by rfl) T.range_ (pa_cons (pe_callB (k_len (K := K) rfl) (by rfl) T.len_ (by decide +kernel) (pa_cons (pv 0) pa_nil)) pa_nil)) (pg_name (i := 3) sc__law_reach.nd rfl (Or.inl rfl)) (pss_one (ps_for PassesOwn.never rfl (k_pil (K := K) rfl (pv 0)) (k_pgt (K := K) (n := 2) rfl (by rfl) (pgs_cons (pg_name (i := 4) sc__law_reach.nd rfl (Or.inl rfl)) (pgs_cons (pg_name (i := 5) sc__law_reach.nd rfl (Or.inl rfl)) pgs_nil)) (by rfl) (by rfl)) (pss_cons (ps_if (PW.pt (pw_and (pt_cmpR (k_in (K := K) rfl) (pv 4) (pv 2) rfl) (pw_and1 (pt_cmpR (k_notin (K := K) rfl) (pv 5) (pv 2) rfl)))) (pss_one (ps_expr (pe_bm PySem.F.plainAttrs_list PySem.F.slot_list_append PySem.F.type_list_append mt_append (pv 2) (pa_cons (pv 5) pa_nil)))) pss_nil) (pss_one (ps_if (PW.pt (pw_and (pt_cmpR (k_in (K := K) rfl) (pv 5) (pv 2) rfl) (pw_and1 (pt_cmpR (k_notin (K := K) rfl) (pv 4) (pv 2) rfl)))) (pss_one (ps_expr (pe_bm PySem.F.plainAttrs_list PySem.F.slot_list_append PySem.F.type_list_append mt_append (pv 2) (pa_cons (pv 4) pa_nil)))) pss_nil)))))) (pss_one (ps_ret (pe_callB (k_sorted (K := K) rfl) (by rfl) T.sorted_ (by decide +kernel) (pa_cons (pv 2) pa_nil)))))), ?_⟩
  refine gsp_body (n := 2) (m := 4) (fun _ => rfl) rfl (fun x hx => ?_) vs H Q E h
  obtain ⟨rs, st⟩ := x
  dsimp only at hx ⊢
  repeat walk_at "g"
  refine ⟨[.int st], rfl, (show 1 ≤ 100000 by decide), ?_⟩
  repeat walk_at "g"
  -- the turns
  refine gs_for [3] ?_
  repeat walk_at "g"
  rw [List.length_map]
  refine ⟨by omega, ?_⟩
  refine ⟨fun i => JR rs st fun fs => closed rs fs ∨ i ≤ (within rs fs).length, ⟨[st], none, none, none, rfl, rfl, Reach.init rs st, .inr (Nat.zero_le _)⟩, fun _ _ _ _ => trivial, ?_, ?_⟩
  · rintro i d Γ M hd ⟨fs0, t, o1, o2, rfl, rfl, R0, c0⟩
    obtain ⟨hi, rfl⟩ := rng_get hd
    repeat walk_at "g"
    refine gs_for [4, 5] ?_
    repeat walk_at "g"
    refine ⟨fun j => JR rs st fun fs => (fs = fs0 ∧ ∀ k r, k < j → rs[k]? = some r → (r.1 ∈ fs ↔ r.2 ∈ fs)) ∨ (¬ closed rs fs0 ∧ (within rs fs0).length + 1 ≤ (within rs fs).length), ⟨fs0, _, o1, o2, rfl, rfl, R0, .inl ⟨rfl, fun k r hk => absurd hk (Nat.not_lt_zero k)⟩⟩, ?_, ?_, ?_⟩
    · rintro j Γ M ⟨fs, t, o1, o2, rfl, rfl, _⟩
      rfl
    · rintro j d Γ M hd ⟨fs, t, o1, o2, rfl, rfl, R, c⟩
      obtain ⟨r, hr, rfl⟩ := mp_at hd
      have hm := List.mem_of_getElem? hr
      have mono : ∀ {gs : List Int}, (within rs fs).length + 1 ≤ (within rs gs).length → ¬ (r.1 ∈ fs ↔ r.2 ∈ fs) → ¬ closed rs fs0 ∧ (within rs fs0).length + 1 ≤ (within rs gs).length := fun h u => by
        rcases c with ⟨c, _⟩ | c
        · subst c; exact ⟨fun z => u (z r hm), h⟩
        · exact ⟨c.1, by omega⟩
      repeat walk_at "t"
      refine gs_cut (fun Γ M => ∃ fs1, Γ = [some (.ref 0), some (.dat (.int st)), some (.ref 1), t, some (.dat (.int r.1)), some (.dat (.int r.2))] ∧ M = [.bor (rs.map prP), .lst (fs1.map .int)] ∧ Reach rs st fs1 ∧
        ((fs1 = fs ∧ (r.1 ∈ fs → r.2 ∈ fs)) ∨ (¬ closed rs fs0 ∧ (within rs fs0).length + 1 ≤ (within rs fs1).length))) ?_ ?_
      · repeat walk_at "g"
        refine ⟨fun h1 => ?_, fun h1 => ?_⟩
        · repeat walk_at "g"
          refine ⟨fun h2 => ?_, fun h2 => ?_⟩
          · repeat walk_at "g"
            have h1 : r.1 ∈ fs := of_decide_eq_true h1
            have h2 : r.2 ∉ fs := by simpa using h2
            obtain ⟨R1, m1⟩ := R.add hm (x := r.2) (.inl ⟨h1, rfl, h2⟩)
            refine ⟨1, fs.map .int, rfl, rfl, ?_⟩
            repeat walk_at "g"
            refine ⟨.int r.2, fs.map .int, rfl, rfl, ?_, ?_⟩
            · rw [List.length_map]
              have := R.len
              have := List.length_filter_le (fun s : Road => decide (s.1 ∈ fs) && decide (s.2 ∈ fs)) rs
              unfold within at *
              omega
            · exact ⟨fs ++ [r.2], rfl, by show [_, MO.lst (fs.map .int ++ [.int r.2])] = _; rw [List.map_append] <;> rfl, R1, .inr (mono m1 fun z => h2 (z.1 h1))⟩
          · repeat walk_at "g"
            exact ⟨fs, rfl, rfl, R, .inl ⟨rfl, fun _ => by simpa using h2⟩⟩
        · refine ⟨fun z => (by cases z), fun _ => ?_⟩
          repeat walk_at "g"
          exact ⟨fs, rfl, rfl, R, .inl ⟨rfl, fun z => absurd z (of_decide_eq_false h1)⟩⟩
      · rintro Γ M ⟨fs1, rfl, rfl, R1, c1⟩
        have out : (r.2 ∈ fs1 → r.1 ∈ fs1) → (fs1 = fs0 ∧ ∀ k r, k < j + 1 → rs[k]? = some r → (r.1 ∈ fs1 ↔ r.2 ∈ fs1)) ∨ (¬ closed rs fs0 ∧ (within rs fs0).length + 1 ≤ (within rs fs1).length) := fun hb => by
          rcases c1 with ⟨e1, i1⟩ | c1
          · rcases c with ⟨e, i⟩ | c
            · refine .inl ⟨e1.trans e, fun k s hk hs => ?_⟩
              rw [e1]
              by_cases hkj : k < j
              · exact i k s hkj hs
              · have hkj : k = j := by omega
                subst hkj
                rw [hr] at hs
                cases hs
                exact ⟨i1, fun z => by have := hb (by rw [e1]; exact z); rw [e1] at this; exact this⟩
            · rw [e1]; exact .inr c
          · exact .inr c1
        repeat walk_at "g"
        refine ⟨fun h1 => ?_, fun h1 => ?_⟩
        · repeat walk_at "g"
          refine ⟨fun h2 => ?_, fun h2 => ?_⟩
          · repeat walk_at "g"
            have h1 : r.2 ∈ fs1 := of_decide_eq_true h1
            have h2 : r.1 ∉ fs1 := by simpa using h2
            obtain ⟨R2, m2⟩ := R1.add hm (x := r.1) (.inr ⟨h1, rfl, h2⟩)
            refine ⟨1, fs1.map .int, rfl, rfl, ?_⟩
            repeat walk_at "g"
            refine ⟨.int r.1, fs1.map .int, rfl, rfl, ?_, ?_⟩
            · rw [List.length_map]
              have := R1.len
              have := List.length_filter_le (fun s : Road => decide (s.1 ∈ fs1) && decide (s.2 ∈ fs1)) rs
              unfold within at *
              omega
            · refine ⟨fs1 ++ [r.1], _, _, _, rfl, by show [_, MO.lst (fs1.map .int ++ [.int r.1])] = _; rw [List.map_append] <;> rfl, R2, .inr ?_⟩
              rcases c1 with ⟨e1, _⟩ | c1
              · subst e1; exact mono m2 fun z => h2 (z.2 h1)
              · exact ⟨c1.1, by omega⟩
          · repeat walk_at "g"
            exact ⟨fs1, _, _, _, rfl, rfl, R1, out fun _ => by simpa using h2⟩
        · refine ⟨fun z => (by cases z), fun _ => ?_⟩
          repeat walk_at "g"
          exact ⟨fs1, _, _, _, rfl, rfl, R1, out fun z => absurd z (of_decide_eq_false h1)⟩
    · rintro Γ M ⟨fs, t, o1, o2, rfl, rfl, R, c⟩
      refine ⟨fs, _, _, _, rfl, rfl, R, ?_⟩
      rcases c with ⟨rfl, c⟩ | c
      · refine .inl fun r hr => ?_
        obtain ⟨k, hk, e⟩ := List.mem_iff_getElem.1 hr
        exact c k r (by rw [List.length_map]; exact hk) (by rw [List.getElem?_eq_getElem hk, e])
      · rcases c0 with c0 | c0
        · exact absurd c0 c.1
        · exact .inr (by omega)
  · rintro Γ M ⟨fs, t, o1, o2, rfl, rfl, R, c⟩
    have cl : closed rs fs := by
      rcases c with c | c
      · exact c
      · unfold rngD at c
        rw [List.length_map, List.length_range] at c
        exact within_all (by omega)
    repeat walk_at "g"
    have hl := R.len
    have := List.length_filter_le (fun s : Road => decide (s.1 ∈ fs) && decide (s.2 ∈ fs)) rs
    unfold within at hl
    refine cg_sorted (ns := fs) rfl (by omega) fun ms pm pw => ?_
    exact rt_n rfl ⟨ms, rfl, pm.nodup_iff.2 R.nd, fun b => by rw [pm.mem_iff]; exact R.all cl b⟩
abbrev s__law_e_hangs : Stmt := topS 31
theorem sc__law_e_hangs : FnScope ["members", "roads", "road"] ["members", "roads"] (defScope s__law_e_hangs) := ⟨rfl, rfl, rfl, by decide +kernel, rfl, by decide +kernel, by decide +kernel⟩
abbrev spLawHangs : Sp := GSp false (fun x : List Int × List Road => [.bor (x.1.map .int), .bor (x.2.map prP)]) (fun x => x.1.Nodup ∧ x.1 ≠ [] ∧ x.1.length < 60 ∧ x.2.length ≤ 40 ∧ Forest x.2) fun x r => r = .dat (.bool (decide ((within x.2 x.1).length + 1 = x.1.length)))
theorem cal__law_e_hangs (D : DefF K mg "_law_e_hangs" s__law_e_hangs ["members", "roads"]) (T : Txt mg) (C : Cal P w K mg base CX0 1 "_law_reach" ["roads", "start"] spReach) : Cal P w K mg base CX0 2 "_law_e_hangs" ["members", "roads"] spLawHangs := by
  obtain ⟨f, fd, F, g, b⟩ := D
  obtain ⟨_, _, G__law_reach, g__law_reach, kp__law_reach, b__law_reach⟩ := C
  refine ⟨f, fd, F.ok sc__law_e_hangs (gsp_len (n := 2) fun _ => rfl) (fun cdv A outer s H vs Q E hr h => ?_), g, F.kp, b⟩
  refine ⟨_, (pss_one (ps_ret (pe_cmpR op_eq (pe_callB (k_len (K := K) rfl) (by rfl) T.len_ (by decide +kernel) (pa_cons (pe_call G__law_reach (hr.mono (by decide)) (by rfl) g__law_reach kp__law_reach b__law_reach .nil pass0 (pa_cons (pe_lc (own := [("road", 2)]) (by rfl) sc__law_e_hangs.nd (k_pil (K := K) rfl (pv 1)) (blkOk_by (own := [("road", 2)]) (N := ["members", "roads", "road"]) (sc := defScope s__law_e_hangs) (by decide +kernel)) (fun _ _ _ _ _ => (pg_name (i := 2) sc__law_e_hangs.nd rfl (Or.inl rfl))) (fun _ _ _ _ _ => (pts_one (PW.pt (pw_and (pt_cmpR (k_in (K := K) rfl) (pe_ix (k_ixT (K := K) rfl) (pv 2) pe_int (fun _ _ => rfl)) (pv 0) rfl) (pw_and1 (pt_cmpR (k_in (K := K) rfl) (pe_ix (k_ixT (K := K) rfl) (pv 2) pe_int (fun _ _ => rfl)) (pv 0) rfl)))))) (fun _ _ _ _ _ => (pv 2))) (pa_cons (pe_ix (k_ixL (K := K) rfl) (pv 0) pe_int (fun _ _ => rfl)) pa_nil))) pa_nil)) (pe_callB (k_len (K := K) rfl) (by rfl) T.len_ (by decide +kernel) (pa_cons (pv 0) pa_nil)) (nomark _)))), ?_⟩
  refine gsp_body (n := 2) (m := 1) (fun _ => rfl) rfl (fun x hx => ?_) vs H Q E h
  obtain ⟨ns, rs⟩ := x
  dsimp only at hx ⊢
  obtain ⟨nd, h0, hl, hrl, hf⟩ := hx
  obtain ⟨n0, ns', rfl⟩ : ∃ n ns', ns = n :: ns' := by
    cases ns with
    | nil => exact absurd rfl h0
    | cons n ns' => exact ⟨n, ns', rfl⟩
  repeat walk_at "g"
  with_reducible refine ge_lcFilt rs prP (fun r => decide (r.1 ∈ n0 :: ns') && decide (r.2 ∈ n0 :: ns')) prP ?_
  repeat walk_at "g"
  refine ⟨rfl, rfl, by omega, fun r _ => ?_, ?_⟩
  · repeat walk_at "g"
    refine ⟨fun h1 => ?_, fun h1 => ⟨by rw [h1] <;> rfl, PreM.rf _, fun z => by rw [h1] at z; cases z⟩⟩
    repeat walk_at "g"
    refine ⟨by rw [h1] <;> rfl, PreM.rf _, fun h2 => ?_⟩
    repeat walk_at "g"
    exact ⟨PreM.rf _, rfl⟩
  · repeat walk_at "g"
    refine ⟨(within rs (n0 :: ns'), n0), .cons rfl (.cons rfl .nil), ?_, ?_⟩
    · have := List.length_filter_le (fun r : Road => decide (r.1 ∈ n0 :: ns') && decide (r.2 ∈ n0 :: ns')) rs
      unfold within
      exact Nat.le_trans this hrl
    · rintro _ ⟨ms, rfl, mn, mc⟩
      refine rp_n ?_
      repeat walk_at "g"
      refine rt_d (congrArg (fun b => Rs.dat (.bool b)) ?_)
      rw [List.length_map, List.length_map]
      have key : ms.length = (n0 :: ns').length ↔ ∀ y ∈ n0 :: ns', Conn (within rs (n0 :: ns')) n0 y := by
        have sub : ∀ b ∈ ms, b ∈ n0 :: ns' := fun b hb => by
          rcases Conn.ends (S := fun x => x ∈ n0 :: ns') (fun r hr => (mem_within.1 hr).2) ((mc b).1 hb) with e | e
          · rw [← e]; exact List.mem_cons_self
          · exact e.2
        constructor
        · intro e y hy
          exact (mc y).1 (mem_of_len mn nd sub e hy)
        · intro hc
          exact Nat.le_antisymm (len_sub mn nd sub) (len_sub nd mn fun y hy => (mc y).2 (hc y hy))
      have := within_iff hf nd (x := n0) List.mem_cons_self
      refine decide_eq_decide.2 ⟨fun e => this.2 (key.1 (by omega)), fun e => ?_⟩
      have := key.2 (this.1 e)
      omega
end
end K99

namespace K99
open PySem PySem.Spec PyProof.Rows L2 GL Gr
local macro_rules | `(tactic| walk_at "g") => `(tactic| first
  | (with_reducible refine gs_seq ?_)
  | (with_reducible refine gs_set ?_)
  | (with_reducible refine gs_ret ?_)
  | (with_reducible refine gs_if ?_)
  | (with_reducible refine gs_drop ?_)
  | (with_reducible refine gs_next ?_)
  | ((with_reducible refine ge_var (d := ?dv) ?hv ?pv); (case hv => exact rfl))
  | (with_reducible refine ge_int ?_)
  | (with_reducible refine ge_bl ?_)
  | (with_reducible refine ge_str ?_)
  | (with_reducible refine ge_non ?_)
  | (with_reducible refine ge_cat ?_)
  | (with_reducible refine ge_ov ?_)
  | (with_reducible refine og_ov ?_)
  | (with_reducible refine ge_chain3 ?_)
  | (with_reducible refine ge_listRg1 ?_)
  | (with_reducible refine ge_isi ?_)
  | (with_reducible refine ge_isi2 ?_)
  | (with_reducible refine ge_cb ?_)
  | (with_reducible refine ga_nil ?_)
  | (with_reducible refine ga_cons ?_)
  | (with_reducible refine ge_andV ?_)
  | (with_reducible refine ge_orV ?_)
  | (with_reducible refine ge_notV ?_)
  | (with_reducible refine ge_isN ?_)
  | (with_reducible refine ge_notN ?_)
  | (with_reducible refine ge_if ?_)
  | (with_reducible refine ge_tup ?_)
  | (with_reducible refine ge_lst ?_)
  | (with_reducible refine ge_slL ?_)
  | (with_reducible refine ge_slT ?_)
  | (with_reducible refine go_none ?_)
  | (with_reducible refine go_some ?_)
  | (with_reducible refine gt_test ?_)
  | (with_reducible refine gt_B ?_)
  | (with_reducible refine gt_and ?_)
  | (with_reducible refine gt_or ?_)
  | (with_reducible refine gt_not ?_)
  | (with_reducible refine gi_list ?_)
  | (with_reducible refine gi_tup ?_)
  | (with_reducible refine gi_rng1 ?_)
  | (with_reducible refine gi_rng2 ?_)
  | (with_reducible refine gi_rng3 ?_)
  | (with_reducible refine gi_enum ?_)
  | (with_reducible refine gi_zipT ?_)
  | (with_reducible refine gs_asg _ ?_)
  | (with_reducible refine gg_name (by decide) ?_)
  | ((with_reducible refine gg_tup ?hn ?hg); (case hn => exact rfl))
  | (with_reducible refine ggs_cons ?_)
  | (with_reducible refine ggs_nil ?_)
  | (with_reducible refine ge_append ?_)
  | (with_reducible refine ge_popAt ?_)
  | (with_reducible refine ge_dget ?_)
  | (with_reducible refine ge_din ?_)
  | (with_reducible refine ge_dnotin ?_)
  | (with_reducible refine gs_dput ?_)
  | (with_reducible refine ge_call ?_)
  | (with_reducible refine ge_callS ?_)
  | (refine ⟨_, ov_I0i, ?_⟩)
  | (refine ⟨_, ov_I0b, ?_⟩)
  | (refine ⟨_, ov_isin rfl, ?_⟩)
  | (refine ⟨_, ov_notin rfl, ?_⟩)
  | (refine ⟨_, ov_eq rfl, ?_⟩)
  | (refine ⟨_, ov_ne rfl, ?_⟩)
  | (refine cg_len (.inl rfl) ?_)
  | (refine cg_len (.inr rfl) ?_)
  | (refine ⟨_, ov_ixT rfl rfl, ?_⟩)
  | (refine ⟨_, ov_ixL rfl rfl, ?_⟩)
  | (refine ⟨_, ov_ixT rfl (atI_nat (j := 0) rfl), ?_⟩)
  | (refine ⟨_, ov_ixL rfl (atI_nat (j := 0) rfl), ?_⟩)
  | (refine ⟨_, ov_ixT rfl (atI_nat (j := 1) rfl), ?_⟩)
  | (refine ⟨_, ov_ixL rfl (atI_nat (j := 1) rfl), ?_⟩)
  | (refine ⟨_, ov_ixT rfl (atI_nat (j := 2) rfl), ?_⟩)
  | (refine ⟨_, ov_ixL rfl (atI_nat (j := 2) rfl), ?_⟩)
  | (refine ⟨_, ov_ixT rfl (atI_nat (j := 3) rfl), ?_⟩)
  | (refine ⟨_, ov_ixL rfl (atI_nat (j := 3) rfl), ?_⟩)
  | (refine ⟨_, _, rfl, kit_int _, ?_⟩)
  | (refine ⟨_, _, rfl, kit_bool _, ?_⟩)
  | (refine ⟨_, _, rfl, kit_str _, ?_⟩)
  | (refine ⟨_, _, rfl, kit_tuple _, ?_⟩)
  | (refine ⟨_, _, rfl, kit_list _, ?_⟩)
  | (refine ⟨_, _, rfl, kit_dict _, ?_⟩)
  | (refine ⟨_, _, rfl, kit_lt _, ?_⟩)
  | (refine ⟨_, rfl, ?_⟩))
local macro_rules | `(tactic| walk_at "t") => `(tactic| first
  | (with_reducible refine gg_name (by decide) ?_)
  | ((with_reducible refine gg_tup ?hn ?hg); (case hn => exact rfl))
  | (with_reducible refine ggs_cons ?_)
  | (with_reducible refine ggs_nil ?_))

section
variable {P : Program} {w : World} {K : PySem.W.Frag} {mg : Str → Option Value} {base : Heap}
abbrev s_is_roads_verdict : Stmt := topS 18
theorem sc_is_roads_verdict : FnScope ["verdict", "one"] ["verdict"] (defScope s_is_roads_verdict) := ⟨rfl, rfl, rfl, by decide +kernel, rfl, by decide +kernel, by decide +kernel⟩
abbrev spVerdict : Sp := GSp false (fun v : PyData => [.dat v]) VOk fun v r => r = .dat (.bool (formOk v))
theorem formOk_long (t : Str) (d : PyData) : ∀ s : List PyData, s.length ≠ 0 → s.length ≠ 2 → formOk (.tuple (.str t :: d :: s)) = false
  | [], h, _ => absurd rfl h
  | [_], _, _ => by simp [formOk, formOf]
  | [_, _], _, h => absurd rfl h
  | _ :: _ :: _ :: _, _, _ => by simp [formOk, formOf]
theorem tree_none : ¬ (Str.ofString "tree" = Str.ofString "none") := by decide +kernel
theorem none_tree : ¬ (Str.ofString "none" = Str.ofString "tree") := by decide +kernel
theorem formOk_tree2 (d x y : PyData) : formOk (.tuple [.str "tree", d, x, y]) = false := by
  cases x <;> cases y <;> simp [formOk, formOf, tree_none]
theorem formOk_none1 (d : PyData) : formOk (.tuple [.str "none", d]) = false := by simp [formOk, formOf, none_tree]
theorem formOk_rows (t : Str) (d : PyData) (h : rowsOf d = none) : ∀ s : List PyData, formOk (.tuple (.str t :: d :: s)) = false
  | [] => by simp only [formOk, formOf, h, ite_self]
  | [_] => by simp [formOk, formOf]
  | [a, b] => by cases a <;> cases b <;> first | rfl | simp only [formOk, formOf, h, ite_self]
  | _ :: _ :: _ :: _ => by simp [formOk, formOf]
theorem cal_is_roads_verdict (D : DefF K mg "is_roads_verdict" s_is_roads_verdict ["verdict"]) (T : Txt mg) (C1 : Cal P w K mg base CX0 1 "is_whole" ["thing"] spWhole) (C2 : Cal P w K mg base CX0 1 "is_listed" ["thing"] spListed) (C3 : Cal P w K mg base CX0 2 "is_road_row" ["thing"] spRow) : Cal P w K mg base CX0 3 "is_roads_verdict" ["verdict"] spVerdict := by
  obtain ⟨f, fd, F, g, b⟩ := D
  obtain ⟨_, _, G_is_whole, g_is_whole, kp_is_whole, b_is_whole⟩ := C1
  obtain ⟨_, _, G_is_listed, g_is_listed, kp_is_listed, b_is_listed⟩ := C2
  obtain ⟨_, _, G_is_road_row, g_is_road_row, kp_is_road_row, b_is_road_row⟩ := C3
  refine ⟨f, fd, F.ok sc_is_roads_verdict (gsp_len (n := 1) fun _ => rfl) (fun cdv A outer s H vs Q E hr h => ?_), g, F.kp, b⟩
  refine ⟨_, (pss_cons (ps_if (PW.pt (pw_or (pt_not (pt_val (pe_callB (k_isi (K := K) rfl) (by rfl) T.isinstance_ (by decide +kernel) (pa_cons (pv 0) (pa_cons (pe_bltn (v := .ty "tuple") (by rfl) T.tuple_ (by decide +kernel) rfl) pa_nil))))) (pw_or (pt_cmpR op_lt (pe_callB (k_len (K := K) rfl) (by rfl) T.len_ (by decide +kernel) (pa_cons (pv 0) pa_nil)) pe_int (nomark _)) (pw_or1 (pt_not (pt_val (pe_call G_is_listed (hr.mono (by decide)) (by rfl) g_is_listed kp_is_listed b_is_listed .nil pass0 (pa_cons (pe_ix (k_ixT (K := K) rfl) (pv 0) pe_int (fun _ _ => rfl)) pa_nil)))))))) (pss_one (ps_ret pe_bl)) pss_nil) (pss_cons (ps_if (pt_not (pt_val (pe_callB (k_all (K := K) rfl rfl) (by rfl) T.all_ (by decide +kernel) (pa_cons (pe_lc (own := [("one", 1)]) (by rfl) sc_is_roads_verdict.nd (k_piq (K := K) rfl (pe_ix (k_ixT (K := K) rfl) (pv 0) pe_int (fun _ _ => rfl))) (blkOk_by (own := [("one", 1)]) (N := ["verdict", "one"]) (sc := defScope s_is_roads_verdict) (by decide +kernel)) (fun _ _ _ _ _ => (pg_name (i := 1) sc_is_roads_verdict.nd rfl (Or.inl rfl))) (fun _ _ _ _ _ => pts_nil) (fun _ _ _ _ _ => (pe_call G_is_road_row (hr.mono (by decide)) (by rfl) g_is_road_row kp_is_road_row b_is_road_row .nil pass0 (pa_cons (pv 1) pa_nil)))) pa_nil)))) (pss_one (ps_ret pe_bl)) pss_nil) (pss_cons (ps_if (pt_cmpR op_eq (pe_ix (k_ixT (K := K) rfl) (pv 0) pe_int (fun _ _ => rfl)) pe_str (nomark _)) (pss_one (ps_ret (pe_cmpR op_eq (pe_callB (k_len (K := K) rfl) (by rfl) T.len_ (by decide +kernel) (pa_cons (pv 0) pa_nil)) pe_int (nomark _)))) pss_nil) (pss_one (ps_ret (pe_and (pe_cmpR op_eq (pe_ix (k_ixT (K := K) rfl) (pv 0) pe_int (fun _ _ => rfl)) pe_str (nomark _)) (pe_and (pe_cmpR op_eq (pe_callB (k_len (K := K) rfl) (by rfl) T.len_ (by decide +kernel) (pa_cons (pv 0) pa_nil)) pe_int (nomark _)) (pe_and (pe_call G_is_whole (hr.mono (by decide)) (by rfl) g_is_whole kp_is_whole b_is_whole .nil pass0 (pa_cons (pe_ix (k_ixT (K := K) rfl) (pv 0) pe_int (fun _ _ => rfl)) pa_nil)) (pe_one (pe_call G_is_whole (hr.mono (by decide)) (by rfl) g_is_whole kp_is_whole b_is_whole .nil pass0 (pa_cons (pe_ix (k_ixT (K := K) rfl) (pv 0) pe_int (fun _ _ => rfl)) pa_nil))))))))))), ?_⟩
  refine gsp_body (n := 1) (m := 1) (fun _ => rfl) rfl (fun v hv => ?_) vs H Q E h
  repeat walk_at "g"
  rcases hv with ⟨t, r, rfl, ht, hl, hrow⟩ | ⟨ds, rfl⟩ | rfl
  · refine ⟨fun z => (by cases z), fun _ => ?_⟩
    repeat walk_at "g"
    cases r with
    | nil =>
      refine ⟨fun _ => ?_, fun z => (by cases z)⟩
      refine ⟨fun _ => ?_, fun z => (by cases z)⟩
      repeat walk_at "g"
      exact rt_d rfl
    | cons d r =>
      obtain ⟨ds, hds, hdd'⟩ := hrow d r rfl
      have hdd : d = .list ds ∨ d = .tuple ds := hdd'.imp id And.left
      have hlt : (pLst d || pTup d) = true := by rcases hdd with rfl | rfl <;> rfl
      refine ⟨fun z => ?_, fun _ => ?_⟩
      · have := of_decide_eq_true z
        simp only [List.length_cons] at this
        omega
      repeat walk_at "g"
      refine ⟨d, .cons rfl .nil, trivial, ?_⟩
      rintro _ rfl
      refine rp_d ?_
      rw [hlt]
      repeat walk_at "g"
      refine ⟨fun z => (by cases z), fun _ => ?_⟩
      repeat walk_at "g"
      -- the rows
      with_reducible refine ge_lcMap (T := PyData) ds (fun x => x) (fun x => .bool (asRoad x).isSome) ?_
      with_reducible refine gi_seqD hdd ?_
      repeat walk_at "g"
      have hrow : rowsOf d = asRoads ds := by rcases hdd with rfl | rfl <;> rfl
      refine ⟨rfl, trivial, (List.map_id' _).symm, Nat.lt_trans hds (by decide), fun x _ => ?_, ?_⟩
      · repeat walk_at "g"
        refine ⟨x, .cons rfl .nil, trivial, ?_⟩
        rintro _ rfl
        exact ⟨PreM.rf _, rfl⟩
      · repeat walk_at "g"
        refine cg_all (ns := ds.map fun x => (asRoad x).isSome) ?_ ?_
        · show some _ = some _
          rw [List.map_map] <;> rfl
        rw [← asRoads_all, ← hrow]
        repeat walk_at "g"
        refine ⟨fun z => ?_, fun z => ?_⟩
        · repeat walk_at "g"
          refine rt_d ?_
          rw [formOk_rows t d (by cases q : rowsOf d <;> first | rfl | (rw [q] at z; cases z)) r]
        · repeat walk_at "g"
          have hsome : (rowsOf d).isSome = true := by simpa using z
          refine ⟨fun ht1 => ?_, fun ht1 => ?_⟩
          · have e : t = "tree" := of_decide_eq_true ht1
            subst e
            repeat walk_at "g"
            refine rt_d (congrArg (fun b => Rs.dat (.bool b)) ?_)
            match r with
            | [] => rw [formOk_tree, hsome] <;> rfl
            | [_] => rw [formOk_long _ _ _ (by simp) (by simp)] <;> rfl
            | [x, y] =>
              rw [formOk_tree2] <;> rfl
            | _ :: _ :: _ :: s => rw [formOk_long _ _ _ (by simp) (by simp), List.length_cons, List.length_cons, List.length_cons, List.length_cons, List.length_cons]; exact decide_eq_false (by omega)
          · have e : t ≠ "tree" := of_decide_eq_false ht1
            have e2 : t = "none" := ht.resolve_left e
            subst e2
            repeat walk_at "g"
            refine ⟨fun _ => ?_, fun z => absurd rfl (of_decide_eq_false z)⟩
            repeat walk_at "g"
            refine ⟨fun h4 => ?_, fun h4 => ?_⟩
            · have h4 := of_decide_eq_true h4
              match r, h4 with
              | [x, y], _ =>
                repeat walk_at "g"
                refine ⟨x, .cons rfl .nil, trivial, ?_⟩
                rintro _ rfl
                refine rp_d ?_
                repeat walk_at "g"
                refine ⟨fun h5 => ?_, fun h5 => rt_d (by rw [formOk_none, hsome, h5] <;> rfl)⟩
                repeat walk_at "g"
                refine ⟨y, .cons rfl .nil, trivial, ?_⟩
                rintro _ rfl
                refine rp_d (rt_d ?_)
                rw [formOk_none, hsome, h5] <;> rfl
              | [], h4 => exact absurd h4 (by simp)
              | [_], h4 => exact absurd h4 (by simp)
              | _ :: _ :: _ :: _, h4 => simp only [List.length_cons] at h4; omega
            · have h4 := of_decide_eq_false h4
              refine rt_d (congrArg (fun b => Rs.dat (.bool b)) ?_)
              match r, h4 with
              | [], _ => rw [formOk_none1]
              | [_], _ => simp [formOk, formOf]
              | [x, y], h4 => exact absurd rfl h4
              | _ :: _ :: _ :: _, _ => simp [formOk, formOf]
  · refine ⟨fun _ => ?_, fun z => (by cases z)⟩
    refine ⟨fun _ => ?_, fun z => (by cases z)⟩
    repeat walk_at "g"
    exact rt_d rfl
  · refine ⟨fun _ => ?_, fun z => (by cases z)⟩
    refine ⟨fun _ => ?_, fun z => (by cases z)⟩
    repeat walk_at "g"
    exact rt_d rfl
end
end K99

namespace K99
open PySem PySem.Spec PyProof.Rows L2 GL Gr
local macro_rules | `(tactic| walk_at "g") => `(tactic| first
  | (with_reducible refine gs_seq ?_)
  | (with_reducible refine gs_set ?_)
  | (with_reducible refine gs_ret ?_)
  | (with_reducible refine gs_if ?_)
  | (with_reducible refine gs_drop ?_)
  | (with_reducible refine gs_next ?_)
  | ((with_reducible refine ge_var (d := ?dv) ?hv ?pv); (case hv => exact rfl))
  | (with_reducible refine ge_int ?_)
  | (with_reducible refine ge_bl ?_)
  | (with_reducible refine ge_str ?_)
  | (with_reducible refine ge_non ?_)
  | (with_reducible refine ge_cat ?_)
  | (with_reducible refine ge_ov ?_)
  | (with_reducible refine og_ov ?_)
  | (with_reducible refine ge_chain3 ?_)
  | (with_reducible refine ge_listRg1 ?_)
  | (with_reducible refine ge_isi ?_)
  | (with_reducible refine ge_isi2 ?_)
  | (with_reducible refine ge_cb ?_)
  | (with_reducible refine ga_nil ?_)
  | (with_reducible refine ga_cons ?_)
  | (with_reducible refine ge_andV ?_)
  | (with_reducible refine ge_orV ?_)
  | (with_reducible refine ge_notV ?_)
  | (with_reducible refine ge_isN ?_)
  | (with_reducible refine ge_notN ?_)
  | (with_reducible refine ge_if ?_)
  | (with_reducible refine ge_tup ?_)
  | (with_reducible refine ge_lst ?_)
  | (with_reducible refine ge_slL ?_)
  | (with_reducible refine ge_slT ?_)
  | (with_reducible refine go_none ?_)
  | (with_reducible refine go_some ?_)
  | (with_reducible refine gt_test ?_)
  | (with_reducible refine gt_B ?_)
  | (with_reducible refine gt_and ?_)
  | (with_reducible refine gt_or ?_)
  | (with_reducible refine gt_not ?_)
  | (with_reducible refine gi_list ?_)
  | (with_reducible refine gi_tup ?_)
  | (with_reducible refine gi_rng1 ?_)
  | (with_reducible refine gi_rng2 ?_)
  | (with_reducible refine gi_rng3 ?_)
  | (with_reducible refine gi_enum ?_)
  | (with_reducible refine gi_zipT ?_)
  | (with_reducible refine gs_asg _ ?_)
  | (with_reducible refine gg_name (by decide) ?_)
  | ((with_reducible refine gg_tup ?hn ?hg); (case hn => exact rfl))
  | (with_reducible refine ggs_cons ?_)
  | (with_reducible refine ggs_nil ?_)
  | (with_reducible refine ge_append ?_)
  | (with_reducible refine ge_popAt ?_)
  | (with_reducible refine ge_dget ?_)
  | (with_reducible refine ge_din ?_)
  | (with_reducible refine ge_dnotin ?_)
  | (with_reducible refine gs_dput ?_)
  | (with_reducible refine ge_call ?_)
  | (with_reducible refine ge_callS ?_)
  | (refine ⟨_, ov_I0i, ?_⟩)
  | (refine ⟨_, ov_I0b, ?_⟩)
  | (refine ⟨_, ov_isin rfl, ?_⟩)
  | (refine ⟨_, ov_notin rfl, ?_⟩)
  | (refine ⟨_, ov_eq rfl, ?_⟩)
  | (refine ⟨_, ov_ne rfl, ?_⟩)
  | (refine cg_len (.inl rfl) ?_)
  | (refine cg_len (.inr rfl) ?_)
  | (refine ⟨_, ov_ixT rfl rfl, ?_⟩)
  | (refine ⟨_, ov_ixL rfl rfl, ?_⟩)
  | (refine ⟨_, ov_ixT rfl (atI_nat (j := 0) rfl), ?_⟩)
  | (refine ⟨_, ov_ixL rfl (atI_nat (j := 0) rfl), ?_⟩)
  | (refine ⟨_, ov_ixT rfl (atI_nat (j := 1) rfl), ?_⟩)
  | (refine ⟨_, ov_ixL rfl (atI_nat (j := 1) rfl), ?_⟩)
  | (refine ⟨_, ov_ixT rfl (atI_nat (j := 2) rfl), ?_⟩)
  | (refine ⟨_, ov_ixL rfl (atI_nat (j := 2) rfl), ?_⟩)
  | (refine ⟨_, ov_ixT rfl (atI_nat (j := 3) rfl), ?_⟩)
  | (refine ⟨_, ov_ixL rfl (atI_nat (j := 3) rfl), ?_⟩)
  | (refine ⟨_, _, rfl, kit_int _, ?_⟩)
  | (refine ⟨_, _, rfl, kit_bool _, ?_⟩)
  | (refine ⟨_, _, rfl, kit_str _, ?_⟩)
  | (refine ⟨_, _, rfl, kit_tuple _, ?_⟩)
  | (refine ⟨_, _, rfl, kit_list _, ?_⟩)
  | (refine ⟨_, _, rfl, kit_dict _, ?_⟩)
  | (refine ⟨_, _, rfl, kit_lt _, ?_⟩)
  | (refine ⟨_, rfl, ?_⟩))
local macro_rules | `(tactic| walk_at "t") => `(tactic| first
  | (with_reducible refine gg_name (by decide) ?_)
  | ((with_reducible refine gg_tup ?hn ?hg); (case hn => exact rfl))
  | (with_reducible refine ggs_cons ?_)
  | (with_reducible refine ggs_nil ?_))

local macro_rules | `(tactic| walk_at "h") => `(tactic| first
  | (with_reducible refine ge_kdict ?_)
  | walk_at "g"
  | (with_reducible refine gs_setS ?_)
  | (refine ⟨_, ov_ixS rfl rfl, ?_⟩)
  | (refine ⟨_, ov_Ii (C := CMul) (.inr ⟨by decide, by decide⟩), ?_⟩)
  | (refine ⟨_, ov_Ii (C := fun _ j => j ≠ 0) (by decide), ?_⟩)
  | (refine ⟨_, ov_Ii (C := CDivN) ⟨by decide, by decide⟩, ?_⟩)
  | (refine ⟨_, ov_Ii (C := CPow) ⟨by decide, by decide, by decide⟩, ?_⟩)
  | (refine ⟨[_], rfl, (show 1 ≤ 100000 by decide /-tup2-/), ?_⟩)
  | (refine ⟨[_, _], rfl, (show 2 ≤ 100000 by decide), ?_⟩)
  | (refine ⟨[_, _, _], rfl, (show 3 ≤ 100000 by decide), ?_⟩)
  | (refine ⟨[_, _, _, _], rfl, (show 4 ≤ 100000 by decide), ?_⟩)
  | (refine ⟨_, _, rfl, rfl, ?_⟩)
  | (refine ⟨_, _, rfl, ?_⟩))
local macro_rules | `(tactic| walk_at "s") => `(tactic| first
  | (with_reducible refine gs_retS 0 ?_)
  | walk_at "h")

section
variable {P : Program} {w : World} {K : PySem.W.Frag} {mg : Str → Option Value} {base : Heap}
abbrev s_roads_fault : Stmt := topS 12
theorem sc_roads_fault : FnScope ["houses", "roads", "groups", "k", "a", "b", "gone", "group"] ["houses", "roads"] (defScope s_roads_fault) := ⟨rfl, rfl, rfl, by decide +kernel, rfl, by decide +kernel, by decide +kernel⟩
abbrev spFault : Sp := GSp false (fun x : Int × List Road => [.dat (.int x.1), .bor (x.2.map prP)]) (fun x => 1 ≤ x.1 ∧ x.1 ≤ 1000 ∧ x.2.length ≤ 1000) fun x r => ∃ d, RF x.1 x.2 d ∧ r = .dat d
theorem cal_roads_fault (D : DefF K mg "roads_fault" s_roads_fault ["houses", "roads"]) (T : Txt mg) : Cal P w K mg base CX0 1 "roads_fault" ["houses", "roads"] spFault := by
  obtain ⟨f, fd, F, g, b⟩ := D
  refine ⟨f, fd, F.ok sc_roads_fault (gsp_len (n := 2) fun _ => rfl) (fun cdv A outer s H vs Q E hr h => ?_), g, F.kp, b⟩
  refine ⟨_, (pss_cons (ps_set (i := 2) sc_roads_fault.nd rfl (Or.inr rfl) (pe_lstRg1 T.list_ T.range_ (pe_op op_add (pv 0) pe_int))) (pss_cons (ps_for PassesOwn.never rfl (pi_enum (by rfl) T.enumerate_ (pa_cons (pv 1) pa_nil)) (k_pgt (K := K) (n := 2) rfl (by rfl) (pgs_cons (pg_name (i := 3) sc_roads_fault.nd rfl (Or.inl rfl)) (pgs_cons (k_pgt (K := K) (n := 2) rfl (by rfl) (pgs_cons (pg_name (i := 4) sc_roads_fault.nd rfl (Or.inr rfl)) (pgs_cons (pg_name (i := 5) sc_roads_fault.nd rfl (Or.inl rfl)) pgs_nil)) (by rfl) (by rfl)) pgs_nil)) (by rfl) (by rfl)) (pss_cons (ps_if (PW.pt (pw_or (pt_not (pt_chain3 op_le op_lt op_le pe_int (pv 4) (pv 5) (pv 0))) (pw_or1 (pt_cmpR op_eq (pe_ix (k_ixL (K := K) rfl) (pv 2) (pv 4) (fun _ _ => rfl)) (pe_ix (k_ixL (K := K) rfl) (pv 2) (pv 5) (fun _ _ => rfl)) (nomark _))))) (pss_one (ps_ret (pe_tup (pa_cons pe_str (pa_cons (pe_op op_add (pv 3) pe_int) pa_nil))))) pss_nil) (pss_cons (ps_set (i := 6) sc_roads_fault.nd rfl (Or.inr rfl) (pe_ix (k_ixL (K := K) rfl) (pv 2) (pv 5) (fun _ _ => rfl))) (pss_one (ps_set (i := 2) sc_roads_fault.nd rfl (Or.inr rfl) (pe_lc (own := [("group", 7)]) (by rfl) sc_roads_fault.nd (k_pil (K := K) rfl (pv 2)) (blkOk_by (own := [("group", 7)]) (N := ["houses", "roads", "groups", "k", "a", "b", "gone", "group"]) (sc := defScope s_roads_fault) (by decide +kernel)) (fun _ _ _ _ _ => (pg_name (i := 7) sc_roads_fault.nd rfl (Or.inl rfl))) (fun _ _ _ _ _ => pts_nil) (fun _ _ _ _ _ => (pe_ifExp (pt_cmpR op_eq (pv 7) (pv 6) (nomark _)) (pe_ix (k_ixL (K := K) rfl) (pv 2) (pv 4) (fun _ _ => rfl)) (pv 7))))))))) (pss_one (ps_ret (pe_ifExp (pt_cmpR op_lt (pe_callB (k_len (K := K) rfl) (by rfl) T.len_ (by decide +kernel) (pa_cons (pv 1) pa_nil)) (pe_op op_sub (pv 0) pe_int) (nomark _)) (pe_tup (pa_cons pe_str (pa_cons (pe_op op_add (pe_callB (k_len (K := K) rfl) (by rfl) T.len_ (by decide +kernel) (pa_cons (pv 1) pa_nil)) pe_int) pa_nil))) pe_non))))), ?_⟩
  refine gsp_body (n := 2) (m := 6) (fun _ => rfl) rfl (fun x hx => ?_) vs H Q E h
  obtain ⟨h, rs⟩ := x
  dsimp only at hx ⊢
  obtain ⟨h1, h2, h3⟩ := hx
  with_reducible refine gs_seq ?_
  with_reducible refine gs_set ?_
  with_reducible refine ge_fz ?_
  repeat walk_at "h"
  refine ⟨by omega, by omega, fz_new ?_⟩
  with_reducible refine gs_seq ?_
  refine gs_for [3, 4, 5] ?_
  repeat walk_at "h"
  refine ⟨fun i Γ M => ∃ gs k a b g y, Γ = [some (.dat (.int h)), some (.ref 0), some (.dat (dI gs)), k, a, b, g, y] ∧ M = [.bor (rs.map prP)] ∧ Labels h.toNat (rs.take i) gs ∧ ∀ j, j < i → ¬ rowBad h rs j, ?_, ?_, ?_, ?_⟩
  · refine ⟨(List.range (h.toNat + 1)).map fun i => ((0 : Int) + (i : Nat)), none, none, none, none, none, ?_, rfl, ?_, fun j hj => absurd hj (Nat.not_lt_zero j)⟩
    · have : (h + 1).toNat = h.toNat + 1 := by omega
      rw [this]
      unfold rngD
      show _ = [_, _, some (D.dat (.list (List.map PyData.int (List.map _ _)))), _, _, _, _, _]
      rw [List.map_map] <;> rfl
    · rw [List.take_zero]; exact Labels.init _
  · rintro i Γ M ⟨gs, k, a, b, g, y, rfl, rfl, _⟩
    rfl
  · rintro i d Γ M hd ⟨gs, k, a, b, g, y, rfl, rfl, L, ok⟩
    obtain ⟨x, hx, rfl⟩ := enum_get hd
    obtain ⟨r, hr', rfl⟩ := mp_at hx
    repeat walk_at "t"
    have hbad : rowBad h rs i ↔ ¬ (1 ≤ r.1 ∧ r.1 < r.2 ∧ r.2 ≤ h) ∨ Conn (rs.take i) r.1 r.2 :=
      ⟨fun ⟨s, hs, z⟩ => by rw [hr'] at hs; cases hs; exact z, fun z => ⟨r, hr', z⟩⟩
    have fin : rowBad h rs i → RT false (fun r => ∃ d, RF h rs d ∧ r = Rs.dat d) (.dat (dRow i)) [.bor (rs.map prP)] := fun z =>
      rt_d ⟨_, .inl ⟨i, (List.getElem?_eq_some_iff.1 hr').1, z, ok, rfl⟩, rfl⟩
    have hat : ∀ {x : Int}, 0 ≤ x → x ≤ h → ∃ u, gs[x.toNat]? = some u ∧ atI (gs.map PyData.int) x = some (.int u) := fun {x} z1 z2 => by
      have hlt : x.toNat < gs.length := by rw [L.1]; omega
      refine ⟨gs[x.toNat], List.getElem?_eq_getElem hlt, at_int z1 ?_⟩
      rw [List.getElem?_map, List.getElem?_eq_getElem hlt] <;> rfl
    with_reducible refine gs_seq ?_
    refine gs_ifB (fun b => b = true ↔ rowBad h rs i) ?_ ?_ ?_
    · repeat walk_at "h"
      refine ⟨fun c1 => ⟨_, rfl, fun _ => ⟨rfl, ?_⟩, fun z => by cases z⟩, fun c1 => ?_⟩
      · exact ⟨fun _ => hbad.2 (.inl fun z => of_decide_eq_false c1 z.1), fun _ => rfl⟩
      have c1 := of_decide_eq_true c1
      repeat walk_at "h"
      refine ⟨fun c2 => ⟨_, rfl, fun _ => ⟨rfl, ?_⟩, fun z => by cases z⟩, fun c2 => ?_⟩
      · exact ⟨fun _ => hbad.2 (.inl fun z => of_decide_eq_false c2 z.2.1), fun _ => rfl⟩
      have c2 := of_decide_eq_true c2
      repeat walk_at "h"
      refine ⟨fun c3 => ⟨rfl, ?_⟩, fun c3 => ?_⟩
      · exact ⟨fun _ => hbad.2 (.inl fun z => by rw [decide_eq_true z.2.2] at c3; cases c3), fun _ => rfl⟩
      have c3 : r.2 ≤ h := by simpa using c3
      obtain ⟨u, hu, au⟩ := hat (x := r.1) (by omega) (by omega)
      obtain ⟨v, hv, av⟩ := hat (x := r.2) (by omega) (by omega)
      repeat walk_at "h"
      refine ⟨_, ov_ixL rfl au, ?_⟩
      repeat walk_at "h"
      refine ⟨_, ov_ixL rfl av, ?_⟩
      repeat walk_at "h"
      have key := L.2 _ _ _ _ hu hv
      rw [Int.toNat_of_nonneg (by omega : 0 ≤ r.1), Int.toNat_of_nonneg (by omega : 0 ≤ r.2)] at key
      rw [hbad]
      rw [decide_eq_true_eq, key]
      exact ⟨rfl, .inr, fun z => z.resolve_left fun z => z ⟨c1, c2, c3⟩⟩
    · intro hb
      repeat walk_at "h"
      exact fin (hb.1 rfl)
    · intro hb
      have nb : ¬ rowBad h rs i := fun z => by have := hb.2 z; cases this
      have ok' : 1 ≤ r.1 ∧ r.1 < r.2 ∧ r.2 ≤ h := Classical.byContradiction fun z => nb (hbad.2 (.inl z))
      obtain ⟨u, hu, au⟩ := hat (x := r.1) (by omega) (by omega)
      obtain ⟨v, hv, av⟩ := hat (x := r.2) (by omega) (by omega)
      repeat walk_at "h"
      refine ⟨_, ov_ixL rfl av, ?_⟩
      with_reducible refine gs_set ?_
      with_reducible refine ge_fz ?_
      with_reducible refine ge_lcMap gs PyData.int (fun y => PyData.int (if y = v then u else y)) ?_
      repeat walk_at "h"
      refine ⟨rfl, rfl, by rw [L.1]; omega, fun y _ => ?_, fz_new ?_⟩
      · repeat walk_at "h"
        refine ⟨fun c => ?_, fun c => ?_⟩
        · repeat walk_at "h"
          refine ⟨_, ov_ixL rfl au, PreM.rf _, ?_⟩
          show PyData.int (if y = v then u else y) = PyData.int u
          rw [if_pos (of_decide_eq_true c)]
        · repeat walk_at "h"
          refine ⟨PreM.rf _, ?_⟩
          show PyData.int (if y = v then u else y) = PyData.int y
          rw [if_neg (of_decide_eq_false c)]
      · refine ⟨gs.map fun y => if y = v then u else y, some (.dat (.int (i : Int))), some (.dat (.int r.1)), some (.dat (.int r.2)), some (.dat (.int v)), y, ?_, rfl, ?_, fun j hj => ?_⟩
        · show [_, _, some (D.dat (.list _)), _, _, _, _, _] = [_, _, some (D.dat (.list (List.map _ (List.map _ _)))), _, _, _, _, _]
          rw [List.map_map] <;> rfl
        · have z := L.merge hu hv
          rw [Int.toNat_of_nonneg (by omega : 0 ≤ r.1), Int.toNat_of_nonneg (by omega : 0 ≤ r.2)] at z
          rw [tk1 hr']
          exact z
        · by_cases e : j = i
          · subst e; exact nb
          · exact ok j (by omega)
  · rintro Γ M ⟨gs, k, a, b, g, y, rfl, rfl, L, ok⟩
    rw [enum_len, List.length_map] at ok
    have ok' : ∀ j, ¬ rowBad h rs j := fun j z => by
      obtain ⟨s, hs, _⟩ := id z
      exact ok j (List.getElem?_eq_some_iff.1 hs).1 z
    repeat walk_at "h"
    rw [List.length_map]
    refine ⟨fun c => ?_, fun c => ?_⟩
    · repeat walk_at "h"
      rw [List.length_map]
      repeat walk_at "h"
      exact rt_d ⟨_, .inr ⟨ok', .inl ⟨of_decide_eq_true c, rfl⟩⟩, rfl⟩
    · repeat walk_at "h"
      exact rt_d ⟨_, .inr ⟨ok', .inr ⟨of_decide_eq_false c, rfl⟩⟩, rfl⟩
end
end K99

/-! Least: the lightest road on the way, in plain words. -/
namespace K99
open PySem PyProof.Rows L2 GL Gr
theorem mem_less {rs : List Road} {q s : Road} : s ∈ less rs q ↔ s ∈ rs ∧ s ≠ q := by
  unfold less
  rw [List.mem_filter, decide_eq_true_eq]
/-- the houses 1 to h -/
def upto (h : Int) : List Int := (List.range h.toNat).map fun (i : Nat) => ((i : Int) + 1)
theorem mem_upto {h x : Int} : x ∈ upto h ↔ 1 ≤ x ∧ x ≤ h := by
  unfold upto
  rw [List.mem_map]
  constructor
  · rintro ⟨i, hi, rfl⟩
    have := List.mem_range.1 hi
    omega
  · rintro ⟨h1, h2⟩
    exact ⟨(x - 1).toNat, List.mem_range.2 (by omega), by omega⟩
theorem nd_upto (h : Int) : (upto h).Nodup := by
  unfold upto
  rw [List.nodup_iff_pairwise_ne, List.pairwise_map]
  exact List.Pairwise.imp (fun z e => z (by omega)) (List.nodup_iff_pairwise_ne.1 (List.nodup_range (n := h.toNat)))
theorem len_upto (h : Int) : (upto h).length = h.toNat := by
  unfold upto
  rw [List.length_map, List.length_range]
theorem Tree.ends {h : Int} {rs : List Road} (t : Tree h rs) : ∀ r ∈ rs, r.1 ∈ upto h ∧ r.2 ∈ upto h := fun r hr => by
  have := t.ok r hr
  exact ⟨mem_upto.2 (by omega), mem_upto.2 (by omega)⟩
theorem Tree.conn {h : Int} {rs : List Road} (t : Tree h rs) {a b : Int} (ha : 1 ≤ a ∧ a ≤ h) (hb : 1 ≤ b ∧ b ≤ h) : Conn rs a b := by
  have ha := mem_upto.2 ha
  have hb := mem_upto.2 hb
  have := forest_le (nd_upto h) (fun z => by rw [z] at ha; cases ha) t.forest t.ends
  have hm := t.many
  have hl := len_upto h
  exact forest_all (nd_upto h) t.forest t.ends (by omega) ha hb
theorem sep_step {rs : List Road} (F : Forest rs) {fs : List Int} {a near far : Int} {r : Road} (hr : r ∈ rs) (e : (r.1 = near ∧ r.2 = far) ∨ (r.2 = near ∧ r.1 = far)) (hc : Conn (within rs fs) a near) (hf : far ∉ fs) {q : Road} (hq : q ∈ rs) :
    ¬ Conn (less rs q) a far ↔ (q = r ∨ ¬ Conn (less rs q) a near) := by
  by_cases hqr : q = r
  · subst hqr
    have c1 : Conn (less rs q) a near := hc.sub fun s hs => by
      obtain ⟨h1, h2, h3⟩ := mem_within.1 hs
      refine mem_less.2 ⟨h1, fun z => ?_⟩
      subst z
      rcases e with ⟨_, e⟩ | ⟨_, e⟩
      · exact hf (e ▸ h3)
      · exact hf (e ▸ h2)
    refine ⟨fun _ => .inl rfl, fun _ c => F.parts hq ?_⟩
    have c2 := c1.symm.trans c
    rcases e with ⟨e1, e2⟩ | ⟨e1, e2⟩
    · rw [e1, e2]; exact c2
    · rw [e1, e2]; exact c2.symm
  · have c0 : Conn (less rs q) r.1 r.2 := Conn.mem (mem_less.2 ⟨hr, fun z => hqr z.symm⟩)
    have c : Conn (less rs q) near far := by
      rcases e with ⟨e1, e2⟩ | ⟨e1, e2⟩
      · rw [← e1, ← e2]; exact c0
      · rw [← e1, ← e2]; exact c0.symm
    constructor
    · intro h; exact .inr fun z => h (z.trans c)
    · rintro (z | z)
      · exact absurd z hqr
      · exact fun y => z (y.trans c.symm)
def IsLeast (ss : List (List Int)) (rs : List Road) (a b m : Int) : Prop := (∃ r ∈ rs, ¬ Conn (less rs r) a b ∧ wt ss r.1 r.2 = m) ∧ ∀ r ∈ rs, ¬ Conn (less rs r) a b → m ≤ wt ss r.1 r.2
theorem IsLeast.lighter {ss : List (List Int)} {rs : List Road} {a b m : Int} (l : IsLeast ss rs a b m) : Lighter ss rs a b ↔ m < wt ss a b := by
  constructor
  · rintro ⟨r, hr, h1, h2⟩
    have := l.2 r hr h1
    omega
  · intro h
    obtain ⟨r, hr, h1, h2⟩ := l.1
    exact ⟨r, hr, h1, by omega⟩
structure LInv (h : Int) (ss : List (List Int)) (rs : List Road) (a : Int) (fs : List Int) (f : Key → Option PyData) : Prop where
  nd : fs.Nodup
  s0 : a ∈ fs
  con : ∀ x ∈ fs, Conn (within rs fs) a x
  ins : ∀ x ∈ fs, x ∈ upto h
  fa : f (.inl a) = some .none
  out : ∀ b, (f (.inl b)).isSome = decide (b ∈ fs)
  val : ∀ b ∈ fs, b ≠ a → ∃ m : Int, f (.inl b) = some (.int m) ∧ IsLeast ss rs a b m
theorem LInv.init {h : Int} {ss : List (List Int)} {rs : List Road} {a : Int} (ha : 1 ≤ a ∧ a ≤ h) : LInv h ss rs a [a] fun j => if j = .inl a then some .none else none where
  nd := List.nodup_cons.2 ⟨by simp, .nil⟩
  s0 := List.mem_cons_self
  con := fun x hx => by rw [List.mem_singleton.1 hx]; exact .refl _ _
  ins := fun x hx => by rw [List.mem_singleton.1 hx]; exact mem_upto.2 ha
  fa := if_pos rfl
  out := fun b => by
    by_cases e : b = a
    · subst e; rw [if_pos rfl]; simp
    · rw [if_neg fun z => e (by injection z)]; simp [e]
  val := fun b hb e => absurd (List.mem_singleton.1 hb) e
theorem LInv.len {h : Int} {ss : List (List Int)} {rs : List Road} {a : Int} {fs : List Int} {f : Key → Option PyData} (L : LInv h ss rs a fs f) : fs.length ≤ h.toNat := by
  have := len_sub L.nd (nd_upto h) L.ins
  rw [len_upto] at this
  exact this
theorem LInv.add {h : Int} {ss : List (List Int)} {rs : List Road} {a : Int} {fs : List Int} {f : Key → Option PyData} (L : LInv h ss rs a fs f) (F : Forest rs) {near far : Int} {r : Road} (hr : r ∈ rs) (e : (r.1 = near ∧ r.2 = far) ∨ (r.2 = near ∧ r.1 = far))
    (hn : near ∈ fs) (hf : far ∉ fs) (hi : far ∈ upto h) {m : Int} (m1 : near = a → m = wt ss r.1 r.2) (m2 : ∀ m0 : Int, f (.inl near) = some (.int m0) → m = if wt ss r.1 r.2 < m0 then wt ss r.1 r.2 else m0) :
    LInv h ss rs a (fs ++ [far]) fun j => if j = .inl far then some (.int m) else f j where
  nd := by
    rw [List.nodup_append]
    refine ⟨L.nd, List.nodup_cons.2 ⟨by simp, .nil⟩, fun x hx y hy => ?_⟩
    rw [List.mem_singleton.1 hy]
    exact fun z => hf (z ▸ hx)
  s0 := List.mem_append_left _ L.s0
  con := fun x hx => by
    have up : ∀ {x}, Conn (within rs fs) a x → Conn (within rs (fs ++ [far])) a x := fun c => c.sub fun s hs => by
      obtain ⟨h1, h2, h3⟩ := mem_within.1 hs
      exact mem_within.2 ⟨h1, List.mem_append_left _ h2, List.mem_append_left _ h3⟩
    rcases List.mem_append.1 hx with hx | hx
    · exact up (L.con x hx)
    · rw [List.mem_singleton.1 hx]
      have hw : r ∈ within rs (fs ++ [far]) := by
        rcases e with ⟨e1, e2⟩ | ⟨e1, e2⟩
        · exact mem_within.2 ⟨hr, by rw [e1]; exact List.mem_append_left _ hn, by rw [e2]; simp⟩
        · exact mem_within.2 ⟨hr, by rw [e2]; simp, by rw [e1]; exact List.mem_append_left _ hn⟩
      refine (up (L.con near hn)).trans ?_
      have c := Conn.mem hw
      rcases e with ⟨e1, e2⟩ | ⟨e1, e2⟩
      · rw [e1, e2] at c; exact c
      · rw [e1, e2] at c; exact c.symm
  ins := fun x hx => by
    rcases List.mem_append.1 hx with hx | hx
    · exact L.ins x hx
    · rw [List.mem_singleton.1 hx]; exact hi
  fa := by rw [if_neg fun z => hf (by injection z with z; exact z ▸ L.s0)]; exact L.fa
  out := fun b => by
    by_cases eb : b = far
    · subst eb; rw [if_pos rfl]; simp
    · rw [if_neg fun z => eb (by injection z), L.out b]; simp [eb]
  val := fun b hb eb => by
    by_cases ebf : b = far
    · subst ebf
      refine ⟨m, if_pos rfl, ?_⟩
      have st : ∀ {q}, q ∈ rs → (¬ Conn (less rs q) a b ↔ (q = r ∨ ¬ Conn (less rs q) a near)) := fun {q} hq => sep_step F hr e (L.con near hn) hf hq
      by_cases en : near = a
      · have em := m1 en
        subst en
        refine ⟨⟨r, hr, (st hr).2 (.inl rfl), em.symm⟩, fun q hq hs => ?_⟩
        rcases (st hq).1 hs with z | z
        · rw [z, em]; exact Int.le_refl _
        · exact absurd (Conn.refl _ _) z
      · obtain ⟨m0, f0, ⟨q0, hq0, s0, w0⟩, l0⟩ := L.val near hn en
        have em := m2 m0 f0
        constructor
        · by_cases z : wt ss r.1 r.2 < m0
          · rw [if_pos z] at em; exact ⟨r, hr, (st hr).2 (.inl rfl), em.symm⟩
          · rw [if_neg z] at em; exact ⟨q0, hq0, (st hq0).2 (.inr s0), w0.trans em.symm⟩
        · intro q hq hs
          rcases (st hq).1 hs with z | z
          · rw [z, em]; split <;> omega
          · have := l0 q hq z
            rw [em]; split <;> omega
    · have hb : b ∈ fs := by
        rcases List.mem_append.1 hb with z | z
        · exact z
        · exact absurd (List.mem_singleton.1 z) ebf
      obtain ⟨m', f', l'⟩ := L.val b hb eb
      exact ⟨m', by rw [if_neg fun z => ebf (by injection z)]; exact f', l'⟩
theorem LInv.done {h : Int} {ss : List (List Int)} {rs : List Road} {a : Int} {fs : List Int} {f : Key → Option PyData} (L : LInv h ss rs a fs f) (t : Tree h rs) (ha : 1 ≤ a ∧ a ≤ h) (c : closed rs fs) {b : Int} (hb : 1 ≤ b ∧ b ≤ h) (e : b ≠ a) : ∃ m : Int, f (.inl b) = some (.int m) ∧ IsLeast ss rs a b m :=
  L.val b ((Conn.closed (S := fun x => x ∈ fs) c (t.conn ha hb)).1 L.s0) e
end K99

namespace K99
open PySem PySem.Spec PyProof.Rows L2 GL Gr
local macro_rules | `(tactic| walk_at "g") => `(tactic| first
  | (with_reducible refine gs_seq ?_)
  | (with_reducible refine gs_set ?_)
  | (with_reducible refine gs_ret ?_)
  | (with_reducible refine gs_if ?_)
  | (with_reducible refine gs_drop ?_)
  | (with_reducible refine gs_next ?_)
  | ((with_reducible refine ge_var (d := ?dv) ?hv ?pv); (case hv => exact rfl))
  | (with_reducible refine ge_int ?_)
  | (with_reducible refine ge_bl ?_)
  | (with_reducible refine ge_str ?_)
  | (with_reducible refine ge_non ?_)
  | (with_reducible refine ge_cat ?_)
  | (with_reducible refine ge_ov ?_)
  | (with_reducible refine og_ov ?_)
  | (with_reducible refine ge_chain3 ?_)
  | (with_reducible refine ge_listRg1 ?_)
  | (with_reducible refine ge_isi ?_)
  | (with_reducible refine ge_isi2 ?_)
  | (with_reducible refine ge_cb ?_)
  | (with_reducible refine ga_nil ?_)
  | (with_reducible refine ga_cons ?_)
  | (with_reducible refine ge_andV ?_)
  | (with_reducible refine ge_orV ?_)
  | (with_reducible refine ge_notV ?_)
  | (with_reducible refine ge_isN ?_)
  | (with_reducible refine ge_notN ?_)
  | (with_reducible refine ge_if ?_)
  | (with_reducible refine ge_tup ?_)
  | (with_reducible refine ge_lst ?_)
  | (with_reducible refine ge_slL ?_)
  | (with_reducible refine ge_slT ?_)
  | (with_reducible refine go_none ?_)
  | (with_reducible refine go_some ?_)
  | (with_reducible refine gt_test ?_)
  | (with_reducible refine gt_B ?_)
  | (with_reducible refine gt_and ?_)
  | (with_reducible refine gt_or ?_)
  | (with_reducible refine gt_not ?_)
  | (with_reducible refine gi_list ?_)
  | (with_reducible refine gi_tup ?_)
  | (with_reducible refine gi_rng1 ?_)
  | (with_reducible refine gi_rng2 ?_)
  | (with_reducible refine gi_rng3 ?_)
  | (with_reducible refine gi_enum ?_)
  | (with_reducible refine gi_zipT ?_)
  | (with_reducible refine gs_asg _ ?_)
  | (with_reducible refine gg_name (by decide) ?_)
  | ((with_reducible refine gg_tup ?hn ?hg); (case hn => exact rfl))
  | (with_reducible refine ggs_cons ?_)
  | (with_reducible refine ggs_nil ?_)
  | (with_reducible refine ge_append ?_)
  | (with_reducible refine ge_popAt ?_)
  | (with_reducible refine ge_dget ?_)
  | (with_reducible refine ge_din ?_)
  | (with_reducible refine ge_dnotin ?_)
  | (with_reducible refine gs_dput ?_)
  | (with_reducible refine ge_call ?_)
  | (with_reducible refine ge_callS ?_)
  | (refine ⟨_, ov_I0i, ?_⟩)
  | (refine ⟨_, ov_I0b, ?_⟩)
  | (refine ⟨_, ov_isin rfl, ?_⟩)
  | (refine ⟨_, ov_notin rfl, ?_⟩)
  | (refine ⟨_, ov_eq rfl, ?_⟩)
  | (refine ⟨_, ov_ne rfl, ?_⟩)
  | (refine cg_len (.inl rfl) ?_)
  | (refine cg_len (.inr rfl) ?_)
  | (refine ⟨_, ov_ixT rfl rfl, ?_⟩)
  | (refine ⟨_, ov_ixL rfl rfl, ?_⟩)
  | (refine ⟨_, ov_ixT rfl (atI_nat (j := 0) rfl), ?_⟩)
  | (refine ⟨_, ov_ixL rfl (atI_nat (j := 0) rfl), ?_⟩)
  | (refine ⟨_, ov_ixT rfl (atI_nat (j := 1) rfl), ?_⟩)
  | (refine ⟨_, ov_ixL rfl (atI_nat (j := 1) rfl), ?_⟩)
  | (refine ⟨_, ov_ixT rfl (atI_nat (j := 2) rfl), ?_⟩)
  | (refine ⟨_, ov_ixL rfl (atI_nat (j := 2) rfl), ?_⟩)
  | (refine ⟨_, ov_ixT rfl (atI_nat (j := 3) rfl), ?_⟩)
  | (refine ⟨_, ov_ixL rfl (atI_nat (j := 3) rfl), ?_⟩)
  | (refine ⟨_, _, rfl, kit_int _, ?_⟩)
  | (refine ⟨_, _, rfl, kit_bool _, ?_⟩)
  | (refine ⟨_, _, rfl, kit_str _, ?_⟩)
  | (refine ⟨_, _, rfl, kit_tuple _, ?_⟩)
  | (refine ⟨_, _, rfl, kit_list _, ?_⟩)
  | (refine ⟨_, _, rfl, kit_dict _, ?_⟩)
  | (refine ⟨_, _, rfl, kit_lt _, ?_⟩)
  | (refine ⟨_, rfl, ?_⟩))
local macro_rules | `(tactic| walk_at "t") => `(tactic| first
  | (with_reducible refine gg_name (by decide) ?_)
  | ((with_reducible refine gg_tup ?hn ?hg); (case hn => exact rfl))
  | (with_reducible refine ggs_cons ?_)
  | (with_reducible refine ggs_nil ?_))

local macro_rules | `(tactic| walk_at "h") => `(tactic| first
  | (with_reducible refine ge_kdict ?_)
  | walk_at "g"
  | (with_reducible refine gs_setS ?_)
  | (refine ⟨_, ov_ixS rfl rfl, ?_⟩)
  | (refine ⟨_, ov_Ii (C := CMul) (.inr ⟨by decide, by decide⟩), ?_⟩)
  | (refine ⟨_, ov_Ii (C := fun _ j => j ≠ 0) (by decide), ?_⟩)
  | (refine ⟨_, ov_Ii (C := CDivN) ⟨by decide, by decide⟩, ?_⟩)
  | (refine ⟨_, ov_Ii (C := CPow) ⟨by decide, by decide, by decide⟩, ?_⟩)
  | (refine ⟨[_], rfl, (show 1 ≤ 100000 by decide /-tup2-/), ?_⟩)
  | (refine ⟨[_, _], rfl, (show 2 ≤ 100000 by decide), ?_⟩)
  | (refine ⟨[_, _, _], rfl, (show 3 ≤ 100000 by decide), ?_⟩)
  | (refine ⟨[_, _, _, _], rfl, (show 4 ≤ 100000 by decide), ?_⟩)
  | (refine ⟨_, _, rfl, rfl, ?_⟩)
  | (refine ⟨_, _, rfl, ?_⟩))
local macro_rules | `(tactic| walk_at "s") => `(tactic| first
  | (with_reducible refine gs_retS 0 ?_)
  | walk_at "h")

section
variable {P : Program} {w : World} {K : PySem.W.Frag} {mg : Str → Option Value} {base : Heap}
abbrev s_least_on_way : Stmt := topS 15
theorem sc_least_on_way : FnScope ["roads", "weights", "a", "found", "growing", "k", "one", "other", "near", "far", "lightest"] ["roads", "weights", "a"] (defScope s_least_on_way) := ⟨rfl, rfl, rfl, by decide +kernel, rfl, by decide +kernel, by decide +kernel⟩
abbrev spLeast : Sp := GSp false (fun x : List Road × List (List Int) × Int × Int => [.bor (x.1.map prP), .bor (x.1.map fun r => .int (wt x.2.1 r.1 r.2)), .dat (.int x.2.2.1)]) (fun x => Tree x.2.2.2 x.1 ∧ (1 ≤ x.2.2.1 ∧ x.2.2.1 ≤ x.2.2.2) ∧ x.2.2.2 ≤ 1000) fun x r => ∃ f n, r = .new (.dct f n) ∧ ∀ b, (1 ≤ b ∧ b ≤ x.2.2.2) → b ≠ x.2.2.1 → ∃ m : Int, f (.inl b) = some (.int m) ∧ IsLeast x.2.1 x.1 x.2.2.1 b m
/-- what stands between the steps -/
def JL (h : Int) (ss : List (List Int)) (rs : List Road) (a : Int) (Pf : List Int → Bool → Prop) (Γ : Sl) (M : List MO) : Prop :=
  ∃ fs f n g o5 o6 o7 o8 o9 o10, Γ = [some (.ref 0), some (.ref 1), some (.dat (.int a)), some (.ref 2), some (.dat (.bool g)), o5, o6, o7, o8, o9, o10] ∧
    M = [.bor (rs.map prP), .bor (rs.map fun r => .int (wt ss r.1 r.2)), .dct f n] ∧ n ≤ fs.length ∧ LInv h ss rs a fs f ∧ Pf fs g
theorem cal_least_on_way (D : DefF K mg "least_on_way" s_least_on_way ["roads", "weights", "a"]) (T : Txt mg) : Cal P w K mg base CX0 1 "least_on_way" ["roads", "weights", "a"] spLeast := by
  obtain ⟨f, fd, F, g, b⟩ := D
  refine ⟨f, fd, F.ok sc_least_on_way (gsp_len (n := 3) fun _ => rfl) (fun cdv A outer s H vs Q E hr h => ?_), g, F.kp, b⟩
  have hu := hu_of hr
  refine ⟨_, (pss_cons (ps_set (i := 3) sc_least_on_way.nd rfl (Or.inl rfl) (pe_disp (pps_cons (pv 2) pe_non pps_nil) (by rfl) (by rfl) (fun z => by cases z) (by decide))) (pss_cons (ps_set (i := 4) sc_least_on_way.nd rfl (Or.inl rfl) pe_bl) (pss_cons (ps_while PassesOwn.never (pt_val (pv 4)) (pss_cons (ps_set (i := 4) sc_least_on_way.nd rfl (Or.inl rfl) pe_bl) (pss_one (ps_for PassesOwn.never rfl (pi_enum (by rfl) T.enumerate_ (pa_cons (pv 0) pa_nil)) (k_pgt (K := K) (n := 2) rfl (by rfl) (pgs_cons (pg_name (i := 5) sc_least_on_way.nd rfl (Or.inl rfl)) (pgs_cons (k_pgt (K := K) (n := 2) rfl (by rfl) (pgs_cons (pg_name (i := 6) sc_least_on_way.nd rfl (Or.inl rfl)) (pgs_cons (pg_name (i := 7) sc_least_on_way.nd rfl (Or.inl rfl)) pgs_nil)) (by rfl) (by rfl)) pgs_nil)) (by rfl) (by rfl)) (pss_one (ps_for PassesOwn.never rfl (k_pit (K := K) rfl (pe_tup (pa_cons (pe_tup (pa_cons (pv 6) (pa_cons (pv 7) pa_nil))) (pa_cons (pe_tup (pa_cons (pv 7) (pa_cons (pv 6) pa_nil))) pa_nil)))) (k_pgt (K := K) (n := 2) rfl (by rfl) (pgs_cons (pg_name (i := 8) sc_least_on_way.nd rfl (Or.inl rfl)) (pgs_cons (pg_name (i := 9) sc_least_on_way.nd rfl (Or.inl rfl)) pgs_nil)) (by rfl) (by rfl)) (pss_one (ps_if (PW.pt (pw_and (pt_cmp (pc_din hu (pv 8) (pv 3)) rfl) (pw_and1 (pt_cmp (pc_dnotin hu (pv 9) (pv 3)) rfl)))) (pss_cons (ps_set (i := 10) sc_least_on_way.nd rfl (Or.inl rfl) (pe_ifExp (pt_cmp (pc_isN (pe_dget hu (pv 3) (pv 8) (fun _ _ => rfl))) rfl) (pe_ix (k_ixL (K := K) rfl) (pv 1) (pv 5) (fun _ _ => rfl)) (pe_callB (call_min2 rfl) (by rfl) T.min_ (by decide +kernel) (pa_cons (pe_dget hu (pv 3) (pv 8) (fun _ _ => rfl)) (pa_cons (pe_ix (k_ixL (K := K) rfl) (pv 1) (pv 5) (fun _ _ => rfl)) pa_nil))))) (pss_cons (ps_dput hu (pv 3) (pv 9) (pv 10) rfl) (pss_one (ps_set (i := 4) sc_least_on_way.nd rfl (Or.inl rfl) pe_bl)))) pss_nil)))))))) (pss_one (ps_ret (pv 3)))))), ?_⟩
  refine gsp_body (n := 3) (m := 8) (fun _ => rfl) rfl (fun x hx => ?_) vs H Q E h
  obtain ⟨rs, ss, a, h⟩ := x
  dsimp only at hx ⊢
  obtain ⟨t, ha, hh⟩ := hx
  repeat walk_at "h"
  with_reducible refine ge_disp1 ?_
  repeat walk_at "h"
  refine ⟨.inl a, rfl, ?_⟩
  repeat walk_at "h"
  refine ⟨fun _ _ z => z, ?_⟩
  repeat walk_at "h"
  refine gs_while (fun m => JL h ss rs a fun fs g => m = 2 * (h.toNat - fs.length) + (if g then 1 else 0) ∧ (g = false → closed rs fs)) ⟨_, [a], _, 1, true, none, none, none, none, none, none, rfl, rfl, Nat.le_refl _, LInv.init ha, rfl, fun z => by cases z⟩ ?_
  rintro m Γ M ⟨fs0, f0, n0, g0, o5, o6, o7, o8, o9, o10, rfl, rfl, hn0, L0, em, c0⟩
  repeat walk_at "h"
  refine ⟨fun eg => ?_, fun eg => ?_⟩
  · subst eg
    rw [if_pos rfl] at em
    repeat walk_at "h"
    refine gs_for [5, 6, 7] ?_
    repeat walk_at "h"
    refine ⟨fun i => JL h ss rs a fun fs g => (g = false ∧ fs = fs0 ∧ ∀ k r, k < i → rs[k]? = some r → (r.1 ∈ fs ↔ r.2 ∈ fs)) ∨ (g = true ∧ fs0.length < fs.length), ⟨fs0, f0, n0, false, o5, o6, o7, o8, o9, o10, rfl, rfl, hn0, L0, .inl ⟨rfl, rfl, fun k r z => absurd z (Nat.not_lt_zero k)⟩⟩, ?_, ?_, ?_⟩
    · rintro i Γ M ⟨fs, f, n, g, o5, o6, o7, o8, o9, o10, rfl, rfl, _⟩
      rfl
    · rintro i d Γ M hd ⟨fs, f, n, g, o5, o6, o7, o8, o9, o10, rfl, rfl, hn, L, c⟩
      obtain ⟨x, hx, rfl⟩ := enum_get hd
      obtain ⟨r, hr', rfl⟩ := mp_at hx
      have hm := List.mem_of_getElem? hr'
      have hw : atI (rs.map fun r => PyData.int (wt ss r.1 r.2)) (i : Int) = some (.int (wt ss r.1 r.2)) := atI_nat (by rw [List.getElem?_map, hr'] <;> rfl)
      repeat walk_at "t"
      refine gs_for [8, 9] ?_
      repeat walk_at "h"
      refine ⟨fun j Γ M => (∃ z8 z9 z10 g z2, Γ = [some (.ref 0), some (.ref 1), some (.dat (.int a)), some (.ref 2), some (.dat (.bool g)), some (.dat (.int (i : Int))), some (.dat (.int r.1)), some (.dat (.int r.2)), z8, z9, z10] ∧ M = [.bor (rs.map prP), .bor (rs.map fun r => .int (wt ss r.1 r.2)), z2]) ∧ JL h ss rs a (fun fs g => (g = false ∧ fs = fs0 ∧ (∀ k r, k < i → rs[k]? = some r → (r.1 ∈ fs ↔ r.2 ∈ fs)) ∧ (1 ≤ j → r.1 ∈ fs → r.2 ∈ fs) ∧ (2 ≤ j → r.2 ∈ fs → r.1 ∈ fs)) ∨ (g = true ∧ fs0.length < fs.length)) Γ M, ?_, ?_, ?_, ?_⟩
      · refine ⟨⟨_, _, _, _, _, rfl, rfl⟩, fs, f, n, g, _, _, _, _, _, _, rfl, rfl, hn, L, ?_⟩
        rcases c with ⟨c1, c2, c3⟩ | c
        · exact .inl ⟨c1, c2, c3, fun z => absurd z (by decide), fun z => absurd z (by decide)⟩
        · exact .inr c
      · intros; trivial
      · rintro j d Γ M hd ⟨⟨z8, z9, z10, g, z2, rfl, rfl⟩, fs, f, n, g', y5, y6, y7, y8, y9, y10, eΓ, eM, hn, L, c⟩
        cases eΓ
        cases eM
        obtain ⟨near, far, rfl, hnf⟩ : ∃ near far : Int, d = .tuple [.int near, .int far] ∧ ((j = 0 ∧ r.1 = near ∧ r.2 = far) ∨ (j = 1 ∧ r.2 = near ∧ r.1 = far)) := by
          match j, hd with
          | 0, hd => cases hd; exact ⟨_, _, rfl, .inl ⟨rfl, rfl, rfl⟩⟩
          | 1, hd => cases hd; exact ⟨_, _, rfl, .inr ⟨rfl, rfl, rfl⟩⟩
          | j + 2, hd => cases hd
        have hend := t.ends r hm
        repeat walk_at "t"
        have hside : (r.1 = near ∧ r.2 = far) ∨ (r.2 = near ∧ r.1 = far) := hnf.imp And.right And.right
        have hfar : far ∈ upto h := by rcases hside with ⟨_, z⟩ | ⟨_, z⟩ <;> rw [← z] <;> first | exact hend.2 | exact hend.1
        have stay : (near ∈ fs → far ∈ fs) → ((g = false ∧ fs = fs0 ∧ (∀ k r, k < i → rs[k]? = some r → (r.1 ∈ fs ↔ r.2 ∈ fs)) ∧ (1 ≤ j + 1 → r.1 ∈ fs → r.2 ∈ fs) ∧ (2 ≤ j + 1 → r.2 ∈ fs → r.1 ∈ fs)) ∨ (g = true ∧ fs0.length < fs.length)) := fun q => by
          rcases c with ⟨c1, c2, c3, c4, c5⟩ | c
          · refine .inl ⟨c1, c2, c3, ?_, ?_⟩
            · rcases hnf with ⟨_, z1, z2⟩ | ⟨z0, _, _⟩
              · intro _; rw [z1, z2]; exact q
              · intro _; exact c4 (by omega)
            · rcases hnf with ⟨z0, _, _⟩ | ⟨_, z1, z2⟩
              · intro z; omega
              · intro _; rw [z1, z2]; exact q
          · exact .inr c
        repeat walk_at "h"
        refine ⟨2, .inl near, f, n, rfl, rfl, rfl, ?_⟩
        repeat walk_at "h"
        rw [L.out near]
        refine ⟨fun h1 => ?_, fun h1 => ?_⟩
        · repeat walk_at "h"
          refine ⟨2, .inl far, f, n, rfl, rfl, rfl, ?_⟩
          repeat walk_at "h"
          rw [L.out far]
          refine ⟨fun h2 => ?_, fun h2 => ?_⟩
          · have h1 : near ∈ fs := of_decide_eq_true h1
            have h2 : far ∉ fs := by simpa using h2
            have grown : ∀ {m : Int}, (near = a → m = wt ss r.1 r.2) → (∀ m0 : Int, f (.inl near) = some (.int m0) → m = if wt ss r.1 r.2 < m0 then wt ss r.1 r.2 else m0) →
                LInv h ss rs a (fs ++ [far]) (fun j => if j = .inl far then some (.int m) else f j) := fun m1 m2 => L.add t.forest hm hside h1 h2 hfar m1 m2
            have more : fs0.length < (fs ++ [far]).length := by
              rw [List.length_append, List.length_singleton]
              rcases c with ⟨_, c, _⟩ | ⟨_, c⟩
              · rw [c]; omega
              · omega
            have small : n < 100000 := by
              have := L.len
              omega
            by_cases en : near = a
            · repeat walk_at "h"
              refine ⟨.inl near, f, n, .none, rfl, rfl, by rw [en]; exact L.fa, ?_⟩
              repeat walk_at "h"
              refine ⟨fun _ => ?_, fun z => (by cases z)⟩
              repeat walk_at "h"
              refine ⟨_, ov_ixL rfl hw, ?_⟩
              repeat walk_at "h"
              refine ⟨.inl far, f, n, rfl, rfl, small, ?_⟩
              repeat walk_at "h"
              refine ⟨⟨_, _, _, _, _, rfl, rfl⟩, fs ++ [far], _, n + 1, true, _, _, _, _, _, _, rfl, rfl, ?_, grown (fun _ => rfl) fun m0 z => ?_, .inr ⟨rfl, more⟩⟩
              · rw [List.length_append, List.length_singleton]; omega
              · rw [en, L.fa] at z; cases z
            · obtain ⟨m0, f0', _⟩ := L.val near h1 en
              repeat walk_at "h"
              refine ⟨.inl near, f, n, .int m0, rfl, rfl, f0', ?_⟩
              repeat walk_at "h"
              refine ⟨fun z => (by cases z), fun _ => ?_⟩
              repeat walk_at "h"
              refine ⟨.inl near, f, n, .int m0, rfl, rfl, f0', ?_⟩
              repeat walk_at "h"
              refine ⟨_, ov_ixL rfl hw, ?_⟩
              repeat walk_at "h"
              refine cg_int2 (f := fun i j => if j < i then j else i) rfl ?_
              repeat walk_at "h"
              refine ⟨.inl far, f, n, rfl, rfl, small, ?_⟩
              repeat walk_at "h"
              refine ⟨⟨_, _, _, _, _, rfl, rfl⟩, fs ++ [far], _, n + 1, true, _, _, _, _, _, _, rfl, rfl, ?_, grown (fun z => absurd z en) fun m1 z => ?_, .inr ⟨rfl, more⟩⟩
              · rw [List.length_append, List.length_singleton]; omega
              · rw [f0'] at z; cases z; rfl
          · repeat walk_at "h"
            refine ⟨⟨_, _, _, _, _, rfl, rfl⟩, fs, f, n, g, _, _, _, _, _, _, rfl, rfl, hn, L, stay fun _ => by simpa using h2⟩
        · refine ⟨fun z => (by cases z), fun _ => ?_⟩
          repeat walk_at "h"
          refine ⟨⟨_, _, _, _, _, rfl, rfl⟩, fs, f, n, g, _, _, _, _, _, _, rfl, rfl, hn, L, stay fun z => absurd z (of_decide_eq_false h1)⟩
      · rintro Γ M ⟨_, fs, f, n, g, y5, y6, y7, y8, y9, y10, rfl, rfl, hn, L, c⟩
        refine ⟨fs, f, n, g, _, _, _, _, _, _, rfl, rfl, hn, L, ?_⟩
        rcases c with ⟨c1, c2, c3, c4, c5⟩ | c
        · refine .inl ⟨c1, c2, fun k s hk hs => ?_⟩
          by_cases hkj : k < i
          · exact c3 k s hkj hs
          · have hkj : k = i := by omega
            subst hkj
            rw [hr'] at hs
            cases hs
            exact ⟨c4 (show 1 ≤ 2 by decide), c5 (show 2 ≤ 2 by decide)⟩
        · exact .inr c
    · rintro Γ M ⟨fs, f, n, g, o5, o6, o7, o8, o9, o10, rfl, rfl, hn, L, c⟩
      rw [enum_len, List.length_map] at c
      have l0 := L0.len
      have l1 := L.len
      rcases c with ⟨c1, c2, c3⟩ | ⟨c1, c2⟩
      · subst c1; subst c2
        refine ⟨_, ?_, fs, f, n, false, _, _, _, _, _, _, rfl, rfl, hn, L, rfl, fun _ r hr => ?_⟩
        · rw [if_neg (by decide)]; omega
        · obtain ⟨k, hk, e⟩ := List.mem_iff_getElem.1 hr
          exact c3 k r hk (by rw [List.getElem?_eq_getElem hk, e])
      · subst c1
        refine ⟨_, ?_, fs, f, n, true, _, _, _, _, _, _, rfl, rfl, hn, L, rfl, fun z => (by cases z)⟩
        rw [if_pos rfl]; omega
  · repeat walk_at "h"
    exact rt_n rfl ⟨f0, n0, rfl, fun b hb e => L0.done t ha (c0 eg) hb e⟩
end
end K99

/-! GL8: letting go at the end of a turn. -/
namespace GL
open PySem PySem.Spec PyProof.Rows L2
def refsLt (n : Nat) : Sl → Bool
  | [] => true
  | some (.ref k) :: Γ => decide (k < n) && refsLt n Γ
  | _ :: Γ => refsLt n Γ
theorem refsLt_at {n : Nat} : ∀ {Γ : Sl}, refsLt n Γ = true → ∀ (i k : Nat), Γ[i]? = some (some (.ref k)) → k < n
  | [], _, i, k, h => by cases h
  | some (.ref j) :: Γ, hr, i, k, h => by
    have hr : (decide (j < n) && refsLt n Γ) = true := hr
    rw [Bool.and_eq_true, decide_eq_true_eq] at hr
    cases i with
    | zero => cases h; exact hr.1
    | succ i => exact refsLt_at hr.2 i k h
  | some (.dat x) :: Γ, hr, i, k, h => by
    cases i with
    | zero => cases h
    | succ i => exact refsLt_at (Γ := Γ) hr i k h
  | none :: Γ, hr, i, k, h => by
    cases i with
    | zero => cases h
    | succ i => exact refsLt_at (Γ := Γ) hr i k h
section
variable {Γ : Sl} {M : List MO} {t : TS} {E : GEnd}
/-- what came since is let go, and the named slots with it -/
theorem gs_let (ws : List Nat) (h : GS t Γ M { E with nx := fun Γ3 M3 => ∃ M4 N, M3 = M4 ++ N ∧ refsLt M4.length (wipeG Γ3 ws) = true ∧ M.length ≤ M4.length ∧ E.nx (wipeG Γ3 ws) M4 }) : GS t Γ M E := fun F σ H B ps Dn e l =>
  h F σ H B ps Dn e ⟨fun σ3 H3 Γ3 M3 B3 p3 ⟨M4, N, em, hr, hn, q⟩ e3 g3 => by
    subst em
    have el : Env F σ3 H3 (wipeG Γ3 ws) (M4 ++ N) B3 p3 := e3.less (wipeG_len _ _) fun i d hi => (wipeG_some hi).1
    refine l.nx σ3 H3 _ M4 B3 (p3.take M4.length) q (el.drop (PreM.app _ _) fun i k hk => refsLt_at hr i k hk) ⟨g3.ex, fun k p hk => ?_⟩
    have := (List.getElem?_eq_some_iff.mp hk).1
    rw [e.len] at this
    rw [List.getElem?_take, if_pos (by omega)]
    exact g3.pre k p hk, l.rt, l.bk, l.ct⟩
end
end GL
namespace GL
open PySem PySem.Spec PyProof.Rows L2
theorem k_ixD {X : Cx} {K : PySem.W.Frag} {w : World} (h : X.K = K) (hw : X.w = w) : IxR X (rIxD K w) := by
  subst h; subst hw; exact ix_kdict
/-- a written dict, read -/
theorem ge_kdict {Γ : Sl} {M : List MO} {P : PD} {K : PySem.W.Frag} {w : World} {D : Addr} {ty : TE} (h : GE ty Γ M fun y M1 => ∃ z i, y = .dat (.str z) ∧ KDct K w D z (.int i) ∧ P (.dat (.int i)) M1) : GE (tOp (rIxD K w) (tC (.ref D)) ty) Γ M P := fun F σ H B ps Q e q =>
  h F σ H B ps _ e fun v y M1 H1 B1 p1 ⟨z, i, ey, hk, hP⟩ e1 g1 v1 => by
    subst ey
    cases v1
    exact ⟨D, z, .int i, rfl, rfl, hk, q _ _ _ _ _ _ hP e1 g1 (.int _)⟩
end GL
namespace GL
open PySem PySem.Spec PyProof.Rows L2
theorem Env.recast {F : Frm} {σ : L2.St} {H : Hp} {Γ : Sl} {M : List MO} {B : Hp} {ps : List Addr} (e : Env F σ H Γ M B ps) {k : Nat} {p : Addr} {m m' : MO} (hp : ps[k]? = some p) (hk : M[k]? = some m) (hm : MOk H B p m') (ho : owned m' = owned m) (hv : vola m' = vola m) :
    Env F σ H Γ (M.set k m') B ps := by
  have hl : k < M.length := (List.getElem?_eq_some_iff.mp hk).1
  refine ⟨e.ex, e.b0, e.bn, e.fr, e.vl, by rw [List.length_set]; exact e.len, e.al, fun j q x h1 h2 => ?_, fun j q x h1 h2 h3 => ?_, e.sz, e.sl⟩
  · by_cases z : j = k
    · subst z
      rw [hp] at h1; cases h1
      rw [List.getElem?_set_self hl] at h2; cases h2
      exact hm
    · rw [List.getElem?_set_ne (Ne.symm z)] at h2
      exact e.mo j q x h1 h2
  · by_cases z : j = k
    · subst z
      rw [List.getElem?_set_self hl] at h2; cases h2
      rw [ho] at h3
      obtain ⟨y1, y2, y3⟩ := e.own j q m h1 hk h3
      exact ⟨y1, by rw [hv]; exact y2, y3⟩
    · rw [List.getElem?_set_ne (Ne.symm z)] at h2
      exact e.own j q x h1 h2 h3
def sroSet (a b c : Int) : Nat → Int → MO
  | 0, v => .sro v b c
  | 1, v => .sro a v c
  | _, v => .sro a b v
section
variable {Γ : Sl} {M : List MO} {t : TS} {E : GEnd} {te : TE} {K : PySem.W.Frag}
/-- the source is opened: its three numbers have names -/
theorem gs_open (k : Nat) (hk : M[k]? = some .src) (h : ∀ a b c : Int, GS t Γ (M.set k (.sro a b c)) E) : GS t Γ M E := fun F σ H B ps Dn e l => by
  obtain ⟨p, hp⟩ := e.mem hk
  obtain ⟨a, b, c, hx⟩ := e.mo k p _ hp hk
  exact h a b c F σ H B ps Dn (e.recast (m' := .sro a b c) hp hk hx rfl rfl) l
theorem gs_retS (k : Nat) (h : GE te Γ M fun d M' => ∃ a b c : Int, M'[k]? = some (.sro a b c) ∧ E.rt d (M'.set k .src)) : GS (tRet te) Γ M E := fun F σ H B ps Dn e l => h F σ H B ps _ e fun v d M' H' B' ps' ⟨a, b, c, hk, q⟩ e' g hv => by
  obtain ⟨p, hp⟩ := e'.mem hk
  have hx : H' p = some (.lst [.int a, .int b, .int c]) := e'.mo k p _ hp hk
  exact l.rt v d σ H' Γ _ B' ps' q (e'.recast (m' := .src) hp hk ⟨a, b, c, hx⟩ rfl rfl) g hv
theorem ov_ixS {k : Nat} {a b c : Int} {i : Int} {d : Int} (hk : M[k]? = some (.sro a b c)) (hi : atI [a, b, c] i = some d) : OV (rIxL K) (.ref k) (.dat (.int i)) M (.int d) := fun F σ H Γ B ps v w e hv hw => by
  cases hw
  obtain ⟨p, hp, rfl⟩ := hv
  have hx : H p = some (.lst [.int a, .int b, .int c]) := e.mo k p _ hp hk
  have hi' : atI [V.int a, V.int b, V.int c] i = some (.int d) := by
    have := congrArg (Option.map V.int) hi
    unfold atI at this ⊢
    revert this
    simp only [List.length_cons, List.length_nil]
    intro this
    cases q : ixN 3 i with
    | none => simp [q] at this ⊢
    | some j =>
      simp [q] at this ⊢
      match j with
      | 0 => simpa using this
      | 1 => simpa using this
      | 2 => simpa using this
      | j + 3 => simp at this
  exact ⟨_, .int _, fun Q q => ⟨p, _, i, _, rfl, rfl, SqL.of hx, hi', q⟩⟩
theorem gs_setS {to ti : TE} (h : GE te Γ M fun y M1 => ∃ d : Int, y = .dat (.int d) ∧ GE to Γ M1 fun x M2 => ∃ k, x = .ref k ∧ GE ti Γ M2 fun z M3 => ∃ (i : Int) (j : Nat) (a b c : Int), z = .dat (.int i) ∧ M3[k]? = some (.sro a b c) ∧ ixN 3 i = some j ∧ j < 3 ∧ E.nx Γ (M3.set k (sroSet a b c j d))) :
    GS (tAsg te (gSub to ti rSetL)) Γ M E := fun F σ H B ps Dn e l =>
  h F σ H B ps _ e fun v y M1 H1 B1 p1 ⟨d, ey, h1⟩ e1 g1 v1 => h1 F σ H1 B1 p1 _ e1 fun w x M2 H2 B2 p2 ⟨k, ex, h2⟩ e2 g2 w2 => h2 F σ H2 B2 p2 _ e2 fun u z M3 H3 B3 p3 ⟨i, j, a, b, c, ez, hk, hj, hj3, h3⟩ e3 g3 u3 => by
    subst ey; subst ex; subst ez
    cases u3
    cases v1
    obtain ⟨p, hp, rfl⟩ := w2
    have hp3 := g3.pre k p hp
    have hx : H3 p = some (.lst [.int a, .int b, .int c]) := e3.mo k p _ hp3 hk
    have e4 := e3.put (o := .lst ([V.int a, V.int b, V.int c].set j (.int d))) (m' := sroSet a b c j d) hp3 hk rfl (by
      match j, hj3 with
      | 0, _ => exact upd_same
      | 1, _ => exact upd_same
      | 2, _ => exact upd_same) (.inl (by
      match j, hj3 with
      | 0, _ => rfl
      | 1, _ => rfl
      | 2, _ => rfl))
    exact ⟨p, _, i, j, rfl, rfl, hx, hj, l.nx _ _ _ _ _ _ h3 e4 ((g1.tr g2).tr g3)⟩
end
end GL

namespace K99
open PySem PySem.Spec PyProof.Rows L2 GL Gr
local macro_rules | `(tactic| walk_at "g") => `(tactic| first
  | (with_reducible refine gs_seq ?_)
  | (with_reducible refine gs_set ?_)
  | (with_reducible refine gs_ret ?_)
  | (with_reducible refine gs_if ?_)
  | (with_reducible refine gs_drop ?_)
  | (with_reducible refine gs_next ?_)
  | ((with_reducible refine ge_var (d := ?dv) ?hv ?pv); (case hv => exact rfl))
  | (with_reducible refine ge_int ?_)
  | (with_reducible refine ge_bl ?_)
  | (with_reducible refine ge_str ?_)
  | (with_reducible refine ge_non ?_)
  | (with_reducible refine ge_cat ?_)
  | (with_reducible refine ge_ov ?_)
  | (with_reducible refine og_ov ?_)
  | (with_reducible refine ge_chain3 ?_)
  | (with_reducible refine ge_listRg1 ?_)
  | (with_reducible refine ge_isi ?_)
  | (with_reducible refine ge_isi2 ?_)
  | (with_reducible refine ge_cb ?_)
  | (with_reducible refine ga_nil ?_)
  | (with_reducible refine ga_cons ?_)
  | (with_reducible refine ge_andV ?_)
  | (with_reducible refine ge_orV ?_)
  | (with_reducible refine ge_notV ?_)
  | (with_reducible refine ge_isN ?_)
  | (with_reducible refine ge_notN ?_)
  | (with_reducible refine ge_if ?_)
  | (with_reducible refine ge_tup ?_)
  | (with_reducible refine ge_lst ?_)
  | (with_reducible refine ge_slL ?_)
  | (with_reducible refine ge_slT ?_)
  | (with_reducible refine go_none ?_)
  | (with_reducible refine go_some ?_)
  | (with_reducible refine gt_test ?_)
  | (with_reducible refine gt_B ?_)
  | (with_reducible refine gt_and ?_)
  | (with_reducible refine gt_or ?_)
  | (with_reducible refine gt_not ?_)
  | (with_reducible refine gi_list ?_)
  | (with_reducible refine gi_tup ?_)
  | (with_reducible refine gi_rng1 ?_)
  | (with_reducible refine gi_rng2 ?_)
  | (with_reducible refine gi_rng3 ?_)
  | (with_reducible refine gi_enum ?_)
  | (with_reducible refine gi_zipT ?_)
  | (with_reducible refine gs_asg _ ?_)
  | (with_reducible refine gg_name (by decide) ?_)
  | ((with_reducible refine gg_tup ?hn ?hg); (case hn => exact rfl))
  | (with_reducible refine ggs_cons ?_)
  | (with_reducible refine ggs_nil ?_)
  | (with_reducible refine ge_append ?_)
  | (with_reducible refine ge_popAt ?_)
  | (with_reducible refine ge_dget ?_)
  | (with_reducible refine ge_din ?_)
  | (with_reducible refine ge_dnotin ?_)
  | (with_reducible refine gs_dput ?_)
  | (with_reducible refine ge_call ?_)
  | (with_reducible refine ge_callS ?_)
  | (refine ⟨_, ov_I0i, ?_⟩)
  | (refine ⟨_, ov_I0b, ?_⟩)
  | (refine ⟨_, ov_isin rfl, ?_⟩)
  | (refine ⟨_, ov_notin rfl, ?_⟩)
  | (refine ⟨_, ov_eq rfl, ?_⟩)
  | (refine ⟨_, ov_ne rfl, ?_⟩)
  | (refine cg_len (.inl rfl) ?_)
  | (refine cg_len (.inr rfl) ?_)
  | (refine ⟨_, ov_ixT rfl rfl, ?_⟩)
  | (refine ⟨_, ov_ixL rfl rfl, ?_⟩)
  | (refine ⟨_, ov_ixT rfl (atI_nat (j := 0) rfl), ?_⟩)
  | (refine ⟨_, ov_ixL rfl (atI_nat (j := 0) rfl), ?_⟩)
  | (refine ⟨_, ov_ixT rfl (atI_nat (j := 1) rfl), ?_⟩)
  | (refine ⟨_, ov_ixL rfl (atI_nat (j := 1) rfl), ?_⟩)
  | (refine ⟨_, ov_ixT rfl (atI_nat (j := 2) rfl), ?_⟩)
  | (refine ⟨_, ov_ixL rfl (atI_nat (j := 2) rfl), ?_⟩)
  | (refine ⟨_, ov_ixT rfl (atI_nat (j := 3) rfl), ?_⟩)
  | (refine ⟨_, ov_ixL rfl (atI_nat (j := 3) rfl), ?_⟩)
  | (refine ⟨_, _, rfl, kit_int _, ?_⟩)
  | (refine ⟨_, _, rfl, kit_bool _, ?_⟩)
  | (refine ⟨_, _, rfl, kit_str _, ?_⟩)
  | (refine ⟨_, _, rfl, kit_tuple _, ?_⟩)
  | (refine ⟨_, _, rfl, kit_list _, ?_⟩)
  | (refine ⟨_, _, rfl, kit_dict _, ?_⟩)
  | (refine ⟨_, _, rfl, kit_lt _, ?_⟩)
  | (refine ⟨_, rfl, ?_⟩))
local macro_rules | `(tactic| walk_at "t") => `(tactic| first
  | (with_reducible refine gg_name (by decide) ?_)
  | ((with_reducible refine gg_tup ?hn ?hg); (case hn => exact rfl))
  | (with_reducible refine ggs_cons ?_)
  | (with_reducible refine ggs_nil ?_))

local macro_rules | `(tactic| walk_at "h") => `(tactic| first
  | (with_reducible refine ge_kdict ?_)
  | walk_at "g"
  | (with_reducible refine gs_setS ?_)
  | (refine ⟨_, ov_ixS rfl rfl, ?_⟩)
  | (refine ⟨_, ov_Ii (C := CMul) (.inr ⟨by decide, by decide⟩), ?_⟩)
  | (refine ⟨_, ov_Ii (C := fun _ j => j ≠ 0) (by decide), ?_⟩)
  | (refine ⟨_, ov_Ii (C := CDivN) ⟨by decide, by decide⟩, ?_⟩)
  | (refine ⟨_, ov_Ii (C := CPow) ⟨by decide, by decide, by decide⟩, ?_⟩)
  | (refine ⟨[_], rfl, (show 1 ≤ 100000 by decide /-tup2-/), ?_⟩)
  | (refine ⟨[_, _], rfl, (show 2 ≤ 100000 by decide), ?_⟩)
  | (refine ⟨[_, _, _], rfl, (show 3 ≤ 100000 by decide), ?_⟩)
  | (refine ⟨[_, _, _, _], rfl, (show 4 ≤ 100000 by decide), ?_⟩)
  | (refine ⟨_, _, rfl, rfl, ?_⟩)
  | (refine ⟨_, _, rfl, ?_⟩))
local macro_rules | `(tactic| walk_at "s") => `(tactic| first
  | (with_reducible refine gs_retS 0 ?_)
  | walk_at "h")

theorem Tree.short {h : Int} {rs : List Road} (t : Tree h rs) (h1 : 1 ≤ h) : rs.length + 1 ≤ h.toNat := by
  have := forest_le (nd_upto h) (fun z => by have := mem_upto (h := h) (x := 1); rw [z] at this; exact absurd (this.2 ⟨Int.le_refl _, h1⟩) (by simp)) t.forest t.ends
  rw [len_upto] at this
  exact this
section
variable {P : Program} {w : World} {K : PySem.W.Frag} {mg : Str → Option Value} {base : Heap}
abbrev s_lighter_fault : Stmt := topS 16
theorem sc_lighter_fault : FnScope ["houses", "sets", "roads", "weights", "a", "least", "b"] ["houses", "sets", "roads"] (defScope s_lighter_fault) := ⟨rfl, rfl, rfl, by decide +kernel, rfl, by decide +kernel, by decide +kernel⟩
abbrev spLighter : Sp := GSp false (fun x : Int × List (List Int) × List Road => [.dat (.int x.1), .bor (x.2.1.map dI), .bor (x.2.2.map prP)]) (fun x => Tree x.1 x.2.2 ∧ (1 ≤ x.1 ∧ x.1 ≤ 12) ∧ x.2.1.length < 1000) fun x r => ∃ d, LF x.1 x.2.1 x.2.2 d ∧ r = .dat d
theorem cal_lighter_fault (D : DefF K mg "lighter_fault" s_lighter_fault ["houses", "sets", "roads"]) (T : Txt mg) (C1 : Cal P w K mg base CX0 1 "road_weight" ["sets", "a", "b"] spWeight) (C2 : Cal P w K mg base CX0 1 "least_on_way" ["roads", "weights", "a"] spLeast) :
    Cal P w K mg base CX0 2 "lighter_fault" ["houses", "sets", "roads"] spLighter := by
  obtain ⟨f, fd, F, g, b⟩ := D
  obtain ⟨_, _, G_road_weight, g_road_weight, kp_road_weight, b_road_weight⟩ := C1
  obtain ⟨_, _, G_least_on_way, g_least_on_way, kp_least_on_way, b_least_on_way⟩ := C2
  refine ⟨f, fd, F.ok sc_lighter_fault (gsp_len (n := 3) fun _ => rfl) (fun cdv A outer s H vs Q E hr h => ?_), g, F.kp, b⟩
  have hu := hu_of hr
  refine ⟨_, (pss_cons (ps_setLc (i := 3) (own := [("a", 4), ("b", 6)]) (by rfl) sc_lighter_fault.nd rfl rfl (sw_true rfl rfl rfl (by decide +kernel)) (k_pil (K := K) rfl (pv 2)) (blkOk_by (own := [("a", 4), ("b", 6)]) (N := ["houses", "sets", "roads", "weights", "a", "least", "b"]) (sc := defScope s_lighter_fault) (by decide +kernel)) (fun _ _ _ _ _ => (k_pgt (K := K) (n := 2) rfl (by rfl) (pgs_cons (pg_name (i := 4) sc_lighter_fault.nd rfl (Or.inl rfl)) (pgs_cons (pg_name (i := 6) sc_lighter_fault.nd rfl (Or.inl rfl)) pgs_nil)) (by rfl) (by rfl))) (fun _ _ _ _ _ => pts_nil) (fun _ _ _ _ _ => (pe_call G_road_weight (hr.mono (by decide)) (by rfl) g_road_weight kp_road_weight b_road_weight .nil pass0 (pa_cons (pv 1) (pa_cons (pv 4) (pa_cons (pv 6) pa_nil)))))) (pss_cons (ps_for PassesOwn.never rfl (pi_range2 (by rfl) T.range_ (pa_cons pe_int (pa_cons (pe_op op_add (pv 0) pe_int) pa_nil))) (pg_name (i := 4) sc_lighter_fault.nd rfl (Or.inl rfl)) (pss_cons (ps_set (i := 5) sc_lighter_fault.nd rfl (Or.inl rfl) (pe_call G_least_on_way (hr.mono (by decide)) (by rfl) g_least_on_way kp_least_on_way b_least_on_way .nil pass0 (pa_cons (pv 2) (pa_cons (pv 3) (pa_cons (pv 4) pa_nil))))) (pss_one (ps_for PassesOwn.never rfl (pi_range2 (by rfl) T.range_ (pa_cons (pe_op op_add (pv 4) pe_int) (pa_cons (pe_op op_add (pv 0) pe_int) pa_nil))) (pg_name (i := 6) sc_lighter_fault.nd rfl (Or.inl rfl)) (pss_one (ps_if (pt_cmpR op_gt (pe_call G_road_weight (hr.mono (by decide)) (by rfl) g_road_weight kp_road_weight b_road_weight .nil pass0 (pa_cons (pv 1) (pa_cons (pv 4) (pa_cons (pv 6) pa_nil)))) (pe_dget hu (pv 5) (pv 6) (fun _ _ => rfl)) (nomark _)) (pss_one (ps_ret (pe_tup (pa_cons pe_str (pa_cons (pv 4) (pa_cons (pv 6) pa_nil)))))) pss_nil)))))) (pss_one (ps_ret pe_non)))), ?_⟩
  refine gsp_body (n := 3) (m := 4) (fun _ => rfl) rfl (fun x hx => ?_) vs H Q E h
  obtain ⟨h, ss, rs⟩ := x
  dsimp only at hx ⊢
  obtain ⟨t, ⟨h1, h2⟩, hs⟩ := hx
  have hl := t.short h1
  with_reducible refine gs_seq ?_
  with_reducible refine gs_set ?_
  with_reducible refine ge_fz ?_
  with_reducible refine ge_lcMap rs prP (fun r => PyData.int (wt ss r.1 r.2)) ?_
  repeat walk_at "h"
  refine ⟨rfl, rfl, by omega, fun r _ => ?_, fz_new ?_⟩
  · repeat walk_at "h"
    refine ⟨(ss, r.1, r.2), .cons rfl (.cons rfl (.cons rfl .nil)), hs, ?_⟩
    rintro _ rfl
    exact ⟨PreM.rf _, rfl⟩
  with_reducible refine gs_seq ?_
  refine gs_for [4] ?_
  repeat walk_at "h"
  refine ⟨by omega, ?_⟩
  refine ⟨fun i Γ M => ∃ o4 o5 o6, Γ = [some (.dat (.int h)), some (.ref 0), some (.ref 1), some (.dat (.list (rs.map fun r => .int (wt ss r.1 r.2)))), o4, o5, o6] ∧ M = [.bor (ss.map dI), .bor (rs.map prP)] ∧ ∀ a b, 1 ≤ a → a < 1 + (i : Int) → a < b → b ≤ h → ¬ Lighter ss rs a b, ⟨none, none, none, rfl, rfl, fun a b z1 z2 => by omega⟩, fun _ _ _ _ => trivial, ?_, ?_⟩
  · rintro i d Γ M hd ⟨o4, o5, o6, rfl, rfl, c⟩
    obtain ⟨hi, rfl⟩ := rng_get hd
    have hia : (1 : Int) + i ≤ h := by omega
    repeat walk_at "t"
    generalize ea : (1 : Int) + i = a at hia ⊢
    refine gs_let [4, 5, 6] ?_
    repeat walk_at "h"
    refine ⟨(rs, ss, a, h), .cons rfl (.cons rfl (.cons rfl .nil)), ⟨t, ⟨(show 1 ≤ a by omega), (show a ≤ h by omega)⟩, (show h ≤ 1000 by omega)⟩, ?_⟩
    rintro _ ⟨f, n, rfl, hf⟩
    have hf : ∀ b, (1 ≤ b ∧ b ≤ h) → b ≠ a → ∃ m : Int, f (.inl b) = some (.int m) ∧ IsLeast ss rs a b m := hf
    refine rp_n ?_
    repeat walk_at "h"
    refine gs_for [6] ?_
    repeat walk_at "h"
    refine ⟨by omega, ?_⟩
    refine ⟨fun j Γ M => ∃ o6, Γ = [some (.dat (.int h)), some (.ref 0), some (.ref 1), some (.dat (.list (rs.map fun r => .int (wt ss r.1 r.2)))), some (.dat (.int a)), some (.ref 2), o6] ∧ M = [.bor (ss.map dI), .bor (rs.map prP), .dct f n] ∧ ∀ b, a < b → b < a + 1 + (j : Int) → ¬ Lighter ss rs a b, ⟨_, rfl, rfl, fun b z1 z2 => by omega⟩, fun _ _ _ _ => trivial, ?_, ?_⟩
    · rintro j d Γ M hd ⟨o6, rfl, rfl, c2⟩
      obtain ⟨hj, rfl⟩ := rng_get hd
      have hjb : a + 1 + (j : Int) ≤ h := by omega
      repeat walk_at "t"
      generalize eb : a + 1 + (j : Int) = b at hjb ⊢
      obtain ⟨m, fm, lm⟩ := hf b ⟨by omega, by omega⟩ (by omega)
      repeat walk_at "h"
      refine ⟨(ss, a, b), .cons rfl (.cons rfl (.cons rfl .nil)), hs, ?_⟩
      rintro _ rfl
      refine rp_d ?_
      repeat walk_at "h"
      refine ⟨.inl b, f, n, .int m, rfl, rfl, fm, ?_⟩
      repeat walk_at "h"
      refine ⟨fun z => ?_, fun z => ?_⟩
      · have z := of_decide_eq_true z
        repeat walk_at "h"
        refine rt_d ⟨_, .inr ⟨a, b, by omega, by omega, by omega, lm.lighter.2 z, rfl, ?_⟩, rfl⟩
        rintro a' b' k1 k2 k3 (k4 | ⟨rfl, k4⟩)
        · exact c a' b' k1 (by omega) k2 k3
        · exact c2 b' k2 (by omega)
      · have z := of_decide_eq_false z
        repeat walk_at "h"
        refine ⟨rfl, fun b' k1 k2 => ?_⟩
        by_cases e : b' = b
        · rw [e]; exact fun y => z (lm.lighter.1 y)
        · exact c2 b' k1 (by omega)
    · rintro Γ M ⟨o6, rfl, rfl, c2⟩
      refine ⟨[.bor (ss.map dI), .bor (rs.map prP)], [.dct f n], rfl, rfl, Nat.le_refl _, none, none, none, rfl, rfl, fun a' b' k1 k2 k3 k4 => ?_⟩
      by_cases e : a' = a
      · subst e
        refine c2 b' k3 ?_
        unfold rngD
        rw [List.length_map, List.length_range]
        omega
      · exact c a' b' k1 (by omega) k3 k4
  · rintro Γ M ⟨o4, o5, o6, rfl, rfl, c⟩
    repeat walk_at "h"
    refine rt_d ⟨_, .inl ⟨rfl, fun a b k1 k2 k3 => c a b k1 ?_ k2 k3⟩, rfl⟩
    unfold rngD
    rw [List.length_map, List.length_range]
    omega
abbrev s_none_fault : Stmt := topS 17
theorem sc_none_fault : FnScope ["houses", "sets", "verdict", "roads", "weight", "asked", "fault", "a", "b", "members"] ["houses", "sets", "verdict"] (defScope s_none_fault) := ⟨rfl, rfl, rfl, by decide +kernel, rfl, by decide +kernel, by decide +kernel⟩
abbrev spNone : Sp := GSp false (fun x : Int × List (List Int) × List Road × PyData × Int × Int => [.dat (.int x.1), .bor (x.2.1.map dI), .dat (.tuple [.str "none", x.2.2.2.1, .int x.2.2.2.2.1, .int x.2.2.2.2.2])])
  (fun x => Tree x.1 x.2.2.1 ∧ (1 ≤ x.1 ∧ x.1 ≤ 12) ∧ x.2.1.length < 1000 ∧ rowsOf x.2.2.2.1 = some x.2.2.1) fun x r => ∃ d, NF x.1 x.2.1 x.2.2.1 x.2.2.2.2.1 x.2.2.2.2.2 d ∧ r = .dat d
theorem rowsOf_some {d : PyData} {rs : List Road} (h : rowsOf d = some rs) : d = .list (rs.map prP) ∨ d = .tuple (rs.map prP) := by
  cases d with
  | list ds => exact .inl (by rw [asRoads_some h])
  | tuple ds => exact .inr (by rw [asRoads_some h])
  | _ => cases h
theorem isN_iff (d : PyData) : isN d = true ↔ d = .none := by cases d <;> first | exact ⟨fun _ => rfl, fun _ => rfl⟩ | exact ⟨fun z => (by cases z), fun z => (by cases z)⟩
theorem cal_none_fault (D : DefF K mg "none_fault" s_none_fault ["houses", "sets", "verdict"]) (T : Txt mg) (C1 : Cal P w K mg base CX0 1 "road_weight" ["sets", "a", "b"] spWeight) (C2 : Cal P w K mg base CX0 2 "lighter_fault" ["houses", "sets", "roads"] spLighter) :
    Cal P w K mg base CX0 3 "none_fault" ["houses", "sets", "verdict"] spNone := by
  obtain ⟨f, fd, F, g, b⟩ := D
  obtain ⟨_, _, G_road_weight, g_road_weight, kp_road_weight, b_road_weight⟩ := C1
  obtain ⟨_, _, G_lighter_fault, g_lighter_fault, kp_lighter_fault, b_lighter_fault⟩ := C2
  refine ⟨f, fd, F.ok sc_none_fault (gsp_len (n := 3) fun _ => rfl) (fun cdv A outer s H vs Q E hr h => ?_), g, F.kp, b⟩
  refine ⟨_, (pss_cons (ps_set (i := 3) sc_none_fault.nd rfl (Or.inl rfl) (pe_callTy (k_list (K := K) rfl) (by rfl) T.list_ (by decide +kernel) (pa_cons (pe_ix (k_ixT (K := K) rfl) (pv 2) pe_int (fun _ _ => rfl)) pa_nil))) (pss_cons (ps_set (i := 4) sc_none_fault.nd rfl (Or.inl rfl) (pe_callB (k_sum (K := K) rfl rfl) (by rfl) T.sum_ (by decide +kernel) (pa_cons (pe_lc (own := [("a", 7), ("b", 8)]) (by rfl) sc_none_fault.nd (k_pil (K := K) rfl (pv 3)) (blkOk_by (own := [("a", 7), ("b", 8)]) (N := ["houses", "sets", "verdict", "roads", "weight", "asked", "fault", "a", "b", "members"]) (sc := defScope s_none_fault) (by decide +kernel)) (fun _ _ _ _ _ => (k_pgt (K := K) (n := 2) rfl (by rfl) (pgs_cons (pg_name (i := 7) sc_none_fault.nd rfl (Or.inl rfl)) (pgs_cons (pg_name (i := 8) sc_none_fault.nd rfl (Or.inl rfl)) pgs_nil)) (by rfl) (by rfl))) (fun _ _ _ _ _ => pts_nil) (fun _ _ _ _ _ => (pe_call G_road_weight (hr.mono (by decide)) (by rfl) g_road_weight kp_road_weight b_road_weight .nil pass0 (pa_cons (pv 1) (pa_cons (pv 7) (pa_cons (pv 8) pa_nil)))))) pa_nil))) (pss_cons (ps_set (i := 5) sc_none_fault.nd rfl (Or.inl rfl) (pe_callB (k_sum (K := K) rfl rfl) (by rfl) T.sum_ (by decide +kernel) (pa_cons (pe_lc (own := [("members", 9)]) (by rfl) sc_none_fault.nd (k_pil (K := K) rfl (pv 1)) (blkOk_by (own := [("members", 9)]) (N := ["houses", "sets", "verdict", "roads", "weight", "asked", "fault", "a", "b", "members"]) (sc := defScope s_none_fault) (by decide +kernel)) (fun _ _ _ _ _ => (pg_name (i := 9) sc_none_fault.nd rfl (Or.inl rfl))) (fun _ _ _ _ _ => pts_nil) (fun _ _ _ _ _ => (pe_op op_sub (pe_callB (k_len (K := K) rfl) (by rfl) T.len_ (by decide +kernel) (pa_cons (pv 9) pa_nil)) pe_int))) pa_nil))) (pss_cons (ps_if (pt_cmpR op_ne (pe_ix (k_ixT (K := K) rfl) (pv 2) pe_int (fun _ _ => rfl)) (pv 4) (nomark _)) (pss_one (ps_ret (pe_tup (pa_cons pe_str (pa_cons pe_int pa_nil))))) pss_nil) (pss_cons (ps_if (pt_cmpR op_ne (pe_ix (k_ixT (K := K) rfl) (pv 2) pe_int (fun _ _ => rfl)) (pv 5) (nomark _)) (pss_one (ps_ret (pe_tup (pa_cons pe_str (pa_cons pe_int pa_nil))))) pss_nil) (pss_cons (ps_set (i := 6) sc_none_fault.nd rfl (Or.inl rfl) (pe_call G_lighter_fault (hr.mono (by decide)) (by rfl) g_lighter_fault kp_lighter_fault b_lighter_fault .nil pass0 (pa_cons (pv 0) (pa_cons (pv 1) (pa_cons (pv 3) pa_nil))))) (pss_cons (ps_if (pt_cmp (pc_notN (pv 6)) rfl) (pss_one (ps_ret (pv 6))) pss_nil) (pss_one (ps_ret (pe_ifExp (pt_cmpR op_lt (pv 4) (pv 5) (nomark _)) pe_non (pe_tup (pa_cons pe_str pa_nil)))))))))))), ?_⟩
  refine gsp_body (n := 3) (m := 7) (fun _ => rfl) rfl (fun x hx => ?_) vs H Q E h
  obtain ⟨h, ss, rs, rd, u, v⟩ := x
  dsimp only at hx ⊢
  obtain ⟨t, ⟨h1, h2⟩, hs, hrd⟩ := hx
  have hl := t.short h1
  repeat walk_at "h"
  refine cg_list (ds := rs.map prP) ?_ ?_
  · rcases rowsOf_some hrd with rfl | rfl
    · exact .inl rfl
    · exact .inr rfl
  repeat walk_at "h"
  with_reducible refine ge_lcMap rs prP (fun r => PyData.int (wt ss r.1 r.2)) ?_
  repeat walk_at "h"
  refine ⟨rfl, rfl, by omega, fun r _ => ?_, ?_⟩
  · repeat walk_at "h"
    refine ⟨(ss, r.1, r.2), .cons rfl (.cons rfl (.cons rfl .nil)), hs, ?_⟩
    rintro _ rfl
    exact ⟨PreM.rf _, rfl⟩
  repeat walk_at "h"
  refine cg_sum (ns := rs.map fun r => wt ss r.1 r.2) (by rw [List.map_map] <;> rfl) ?_
  repeat walk_at "h"
  with_reducible refine ge_lcMap ss dI (fun m => PyData.int ((m.length : Int) - 1)) ?_
  repeat walk_at "h"
  refine ⟨rfl, rfl, by omega, fun m _ => ?_, ?_⟩
  · repeat walk_at "h"
    exact ⟨PreM.rf _, by rw [List.length_map] <;> rfl⟩
  repeat walk_at "h"
  refine cg_sum (ns := ss.map fun m => (m.length : Int) - 1) (by rw [List.map_map] <;> rfl) ?_
  show GS _ _ _ _
  generalize ew : (rs.map fun r => wt ss r.1 r.2).sum = W
  generalize eq : (ss.map fun m => (m.length : Int) - 1).sum = A
  have ew : W = wsum ss rs := ew.symm
  have eq : A = asum ss := eq.symm
  subst ew; subst eq
  repeat walk_at "h"
  refine ⟨fun z => ?_, fun z => ?_⟩
  · repeat walk_at "h"
    refine rt_d ⟨_, .inl ⟨?_, rfl⟩, rfl⟩
    simpa using z
  have z1 : u = wsum ss rs := by simpa using z
  repeat walk_at "h"
  refine ⟨fun z => ?_, fun z => ?_⟩
  · repeat walk_at "h"
    refine rt_d ⟨_, .inr (.inl ⟨z1, ?_, rfl⟩), rfl⟩
    simpa using z
  have z2 : v = asum ss := by simpa using z
  repeat walk_at "h"
  refine ⟨(h, ss, rs), .cons rfl (.cons rfl (.cons rfl .nil)), ⟨t, ⟨h1, h2⟩, hs⟩, ?_⟩
  rintro _ ⟨d, hd, rfl⟩
  refine rp_d ?_
  repeat walk_at "h"
  refine ⟨fun z => ?_, fun z => ?_⟩
  · repeat walk_at "h"
    refine rt_d ⟨_, .inr (.inr ⟨z1, z2, _, hd, .inl ⟨fun e => ?_, rfl⟩⟩), rfl⟩
    subst e
    cases z
  have z3 : d = .none := (isN_iff d).1 (by simpa using z)
  repeat walk_at "h"
  refine ⟨fun z => ?_, fun z => ?_⟩
  · repeat walk_at "h"
    exact rt_d ⟨_, .inr (.inr ⟨z1, z2, _, hd, .inr ⟨z3, .inl ⟨of_decide_eq_true z, rfl⟩⟩⟩), rfl⟩
  · repeat walk_at "h"
    exact rt_d ⟨_, .inr (.inr ⟨z1, z2, _, hd, .inr ⟨z3, .inr ⟨of_decide_eq_false z, rfl⟩⟩⟩), rfl⟩
end
end K99

namespace K99
open PySem PySem.Spec PyProof.Rows L2 GL Gr
local macro_rules | `(tactic| walk_at "g") => `(tactic| first
  | (with_reducible refine gs_seq ?_)
  | (with_reducible refine gs_set ?_)
  | (with_reducible refine gs_ret ?_)
  | (with_reducible refine gs_if ?_)
  | (with_reducible refine gs_drop ?_)
  | (with_reducible refine gs_next ?_)
  | ((with_reducible refine ge_var (d := ?dv) ?hv ?pv); (case hv => exact rfl))
  | (with_reducible refine ge_int ?_)
  | (with_reducible refine ge_bl ?_)
  | (with_reducible refine ge_str ?_)
  | (with_reducible refine ge_non ?_)
  | (with_reducible refine ge_cat ?_)
  | (with_reducible refine ge_ov ?_)
  | (with_reducible refine og_ov ?_)
  | (with_reducible refine ge_chain3 ?_)
  | (with_reducible refine ge_listRg1 ?_)
  | (with_reducible refine ge_isi ?_)
  | (with_reducible refine ge_isi2 ?_)
  | (with_reducible refine ge_cb ?_)
  | (with_reducible refine ga_nil ?_)
  | (with_reducible refine ga_cons ?_)
  | (with_reducible refine ge_andV ?_)
  | (with_reducible refine ge_orV ?_)
  | (with_reducible refine ge_notV ?_)
  | (with_reducible refine ge_isN ?_)
  | (with_reducible refine ge_notN ?_)
  | (with_reducible refine ge_if ?_)
  | (with_reducible refine ge_tup ?_)
  | (with_reducible refine ge_lst ?_)
  | (with_reducible refine ge_slL ?_)
  | (with_reducible refine ge_slT ?_)
  | (with_reducible refine go_none ?_)
  | (with_reducible refine go_some ?_)
  | (with_reducible refine gt_test ?_)
  | (with_reducible refine gt_B ?_)
  | (with_reducible refine gt_and ?_)
  | (with_reducible refine gt_or ?_)
  | (with_reducible refine gt_not ?_)
  | (with_reducible refine gi_list ?_)
  | (with_reducible refine gi_tup ?_)
  | (with_reducible refine gi_rng1 ?_)
  | (with_reducible refine gi_rng2 ?_)
  | (with_reducible refine gi_rng3 ?_)
  | (with_reducible refine gi_enum ?_)
  | (with_reducible refine gi_zipT ?_)
  | (with_reducible refine gs_asg _ ?_)
  | (with_reducible refine gg_name (by decide) ?_)
  | ((with_reducible refine gg_tup ?hn ?hg); (case hn => exact rfl))
  | (with_reducible refine ggs_cons ?_)
  | (with_reducible refine ggs_nil ?_)
  | (with_reducible refine ge_append ?_)
  | (with_reducible refine ge_popAt ?_)
  | (with_reducible refine ge_dget ?_)
  | (with_reducible refine ge_din ?_)
  | (with_reducible refine ge_dnotin ?_)
  | (with_reducible refine gs_dput ?_)
  | (with_reducible refine ge_call ?_)
  | (with_reducible refine ge_callS ?_)
  | (refine ⟨_, ov_I0i, ?_⟩)
  | (refine ⟨_, ov_I0b, ?_⟩)
  | (refine ⟨_, ov_isin rfl, ?_⟩)
  | (refine ⟨_, ov_notin rfl, ?_⟩)
  | (refine ⟨_, ov_eq rfl, ?_⟩)
  | (refine ⟨_, ov_ne rfl, ?_⟩)
  | (refine cg_len (.inl rfl) ?_)
  | (refine cg_len (.inr rfl) ?_)
  | (refine ⟨_, ov_ixT rfl rfl, ?_⟩)
  | (refine ⟨_, ov_ixL rfl rfl, ?_⟩)
  | (refine ⟨_, ov_ixT rfl (atI_nat (j := 0) rfl), ?_⟩)
  | (refine ⟨_, ov_ixL rfl (atI_nat (j := 0) rfl), ?_⟩)
  | (refine ⟨_, ov_ixT rfl (atI_nat (j := 1) rfl), ?_⟩)
  | (refine ⟨_, ov_ixL rfl (atI_nat (j := 1) rfl), ?_⟩)
  | (refine ⟨_, ov_ixT rfl (atI_nat (j := 2) rfl), ?_⟩)
  | (refine ⟨_, ov_ixL rfl (atI_nat (j := 2) rfl), ?_⟩)
  | (refine ⟨_, ov_ixT rfl (atI_nat (j := 3) rfl), ?_⟩)
  | (refine ⟨_, ov_ixL rfl (atI_nat (j := 3) rfl), ?_⟩)
  | (refine ⟨_, _, rfl, kit_int _, ?_⟩)
  | (refine ⟨_, _, rfl, kit_bool _, ?_⟩)
  | (refine ⟨_, _, rfl, kit_str _, ?_⟩)
  | (refine ⟨_, _, rfl, kit_tuple _, ?_⟩)
  | (refine ⟨_, _, rfl, kit_list _, ?_⟩)
  | (refine ⟨_, _, rfl, kit_dict _, ?_⟩)
  | (refine ⟨_, _, rfl, kit_lt _, ?_⟩)
  | (refine ⟨_, rfl, ?_⟩))
local macro_rules | `(tactic| walk_at "t") => `(tactic| first
  | (with_reducible refine gg_name (by decide) ?_)
  | ((with_reducible refine gg_tup ?hn ?hg); (case hn => exact rfl))
  | (with_reducible refine ggs_cons ?_)
  | (with_reducible refine ggs_nil ?_))

local macro_rules | `(tactic| walk_at "h") => `(tactic| first
  | (with_reducible refine ge_kdict ?_)
  | walk_at "g"
  | (with_reducible refine gs_setS ?_)
  | (refine ⟨_, ov_ixS rfl rfl, ?_⟩)
  | (refine ⟨_, ov_Ii (C := CMul) (.inr ⟨by decide, by decide⟩), ?_⟩)
  | (refine ⟨_, ov_Ii (C := fun _ j => j ≠ 0) (by decide), ?_⟩)
  | (refine ⟨_, ov_Ii (C := CDivN) ⟨by decide, by decide⟩, ?_⟩)
  | (refine ⟨_, ov_Ii (C := CPow) ⟨by decide, by decide, by decide⟩, ?_⟩)
  | (refine ⟨[_], rfl, (show 1 ≤ 100000 by decide /-tup2-/), ?_⟩)
  | (refine ⟨[_, _], rfl, (show 2 ≤ 100000 by decide), ?_⟩)
  | (refine ⟨[_, _, _], rfl, (show 3 ≤ 100000 by decide), ?_⟩)
  | (refine ⟨[_, _, _, _], rfl, (show 4 ≤ 100000 by decide), ?_⟩)
  | (refine ⟨_, _, rfl, rfl, ?_⟩)
  | (refine ⟨_, _, rfl, ?_⟩))
local macro_rules | `(tactic| walk_at "s") => `(tactic| first
  | (with_reducible refine gs_retS 0 ?_)
  | walk_at "h")

theorem asc_uniq : ∀ {xs ys : List Int}, xs.Pairwise (· < ·) → ys.Pairwise (· < ·) → (∀ k, k ∈ xs ↔ k ∈ ys) → xs = ys
  | [], [], _, _, _ => rfl
  | [], y :: ys, _, _, h => by have := (h y).2 List.mem_cons_self; cases this
  | x :: xs, [], _, _, h => by have := (h x).1 List.mem_cons_self; cases this
  | x :: xs, y :: ys, hx, hy, h => by
    have hx' := List.pairwise_cons.1 hx
    have hy' := List.pairwise_cons.1 hy
    have e : x = y := by
      rcases List.mem_cons.1 ((h x).1 List.mem_cons_self) with e | e1
      · exact e
      · rcases List.mem_cons.1 ((h y).2 List.mem_cons_self) with e | e2
        · exact e.symm
        · have := hy'.1 x e1
          have := hx'.1 y e2
          omega
    subst e
    rw [asc_uniq hx'.2 hy'.2 fun k => ?_]
    constructor
    · intro hk
      rcases List.mem_cons.1 ((h k).1 (List.mem_cons_of_mem _ hk)) with e | e
      · have := hx'.1 k hk; omega
      · exact e
    · intro hk
      rcases List.mem_cons.1 ((h k).2 (List.mem_cons_of_mem _ hk)) with e | e
      · have := hy'.1 k hk; omega
      · exact e
/-- the houses of a set, each once, in order -/
def bare (h : Int) (m : List Int) : List Int := (upto h).filter fun x => decide (x ∈ m)
theorem asc_upto (h : Int) : (upto h).Pairwise (· < ·) := by
  unfold upto
  rw [List.pairwise_map]
  exact List.Pairwise.imp (fun z => by omega) (List.pairwise_lt_range (n := h.toNat))
theorem asc_bare (h : Int) (m : List Int) : (bare h m).Pairwise (· < ·) := (asc_upto h).sublist List.filter_sublist
theorem mem_bare {h : Int} {m : List Int} {x : Int} : x ∈ bare h m ↔ x ∈ upto h ∧ x ∈ m := by
  unfold bare
  rw [List.mem_filter, decide_eq_true_eq]
theorem bare_is {h : Int} {m ns : List Int} (hm : ∀ x ∈ m, x ∈ upto h) (hn : ns.Pairwise (· < ·)) (hk : ∀ k, k ∈ ns ↔ k ∈ m) : ns = bare h m :=
  asc_uniq hn (asc_bare h m) fun k => by rw [hk k, mem_bare]; exact ⟨fun z => ⟨hm k z, z⟩, And.right⟩
theorem formOf_cases (v : PyData) : (formOf v = .bad) ∨ (∃ rd rs, v = .tuple [.str "tree", rd] ∧ rowsOf rd = some rs ∧ formOf v = .tree rs) ∨ ∃ rd rs u w, v = .tuple [.str "none", rd, .int u, .int w] ∧ rowsOf rd = some rs ∧ formOf v = .none rs u w := by
  cases hv : formOf v with
  | bad => exact .inl rfl
  | tree rs =>
    refine .inr (.inl ?_)
    unfold formOf at hv
    split at hv
    · split at hv
      · rename_i e; subst e
        split at hv
        · cases hv; exact ⟨_, _, rfl, by assumption, rfl⟩
        · cases hv
      · cases hv
    · split at hv
      · split at hv
        · cases hv
        · cases hv
      · cases hv
    · cases hv
  | none rs u w =>
    refine .inr (.inr ?_)
    unfold formOf at hv
    split at hv
    · split at hv
      · split at hv
        · cases hv
        · cases hv
      · cases hv
    · split at hv
      · rename_i e; subst e
        split at hv
        · cases hv; exact ⟨_, _, _, _, rfl, by assumption, rfl⟩
        · cases hv
      · cases hv
    · cases hv
section
variable {P : Program} {w : World} {K : PySem.W.Frag} {mg : Str → Option Value} {base : Heap}
/-- the written limits -/
def LimT (K : PySem.W.Frag) (w : World) (mg : Str → Option Value) : Prop := ∃ D, mg "LIMITS" = some (.ref D) ∧ KDct K w D "houses" (.int 12)
abbrev s_bound : Stmt := topS 6
theorem sc_bound : FnScope ["what", "number"] ["what", "number"] (defScope s_bound) := ⟨rfl, rfl, rfl, by decide +kernel, rfl, by decide +kernel, by decide +kernel⟩
abbrev spBound : Sp := GSp false (fun x : Int => [.dat (.str "houses"), .dat (.int x)]) (fun x => x ≤ 12) fun x r => r = .dat .none
theorem cal_bound (D : DefF K mg "bound" s_bound ["what", "number"]) (T : Txt mg) (L : LimT K w mg) : Cal P w K mg base CX0 1 "bound" ["what", "number"] spBound := by
  obtain ⟨f, fd, F, g, b⟩ := D
  obtain ⟨D_LIMITS, g_LIMITS, hk⟩ := L
  refine ⟨f, fd, F.ok sc_bound (gsp_len (n := 2) fun _ => rfl) (fun cdv A outer s H vs Q E hr h => ?_), g, F.kp, b⟩
  refine ⟨_, (pss_one (ps_if (pt_cmpR op_gt (pv 1) (pe_ix (k_ixD (K := K) (w := w) rfl rfl) (pe_glob (v := .ref D_LIMITS) (by rfl) g_LIMITS rfl) (pv 0) (fun _ _ => rfl)) (nomark _)) (pss_one ps_never) pss_nil)), ?_⟩
  refine gsp_body (n := 2) (m := 0) (fun _ => rfl) rfl (fun x hx => ?_) vs H Q E h
  repeat walk_at "h"
  refine ⟨_, 12, rfl, hk, ?_⟩
  repeat walk_at "g"
  refine ⟨fun z => ?_, fun _ => ?_⟩
  · have := of_decide_eq_true z
    omega
  · repeat walk_at "g"
    exact rt_d rfl
abbrev s_judge_roads : Stmt := topS 19
theorem sc_judge_roads : FnScope ["houses", "sets", "verdict", "fault", "k", "members", "house"] ["houses", "sets", "verdict"] (defScope s_judge_roads) := ⟨rfl, rfl, rfl, by decide +kernel, rfl, by decide +kernel, by decide +kernel⟩
abbrev spJudge : Sp := GSp false (fun x : Int × List (List Int) × PyData => [.dat (.int x.1), .bor (x.2.1.map dI), .dat x.2.2])
  (fun x => (1 ≤ x.1 ∧ x.1 ≤ 12) ∧ x.2.1.length < 1000 ∧ (∀ m ∈ x.2.1, m.length < 60 ∧ ∀ y ∈ m, y ∈ upto x.1) ∧ VOk x.2.2) fun x r => ∃ d, JD x.1 (x.2.1.map (bare x.1)) x.2.2 d ∧ r = .dat d
theorem cal_judge_roads (D : DefF K mg "judge_roads" s_judge_roads ["houses", "sets", "verdict"]) (T : Txt mg) (C1 : Cal P w K mg base CX0 1 "bound" ["what", "number"] spBound) (C2 : Cal P w K mg base CX0 3 "is_roads_verdict" ["verdict"] spVerdict)
    (C3 : Cal P w K mg base CX0 1 "roads_fault" ["houses", "roads"] spFault) (C4 : Cal P w K mg base CX0 3 "none_fault" ["houses", "sets", "verdict"] spNone) (C5 : Cal P w K mg base CX0 1 "hangs_together" ["members", "roads"] spHangs) :
    Cal P w K mg base CX0 4 "judge_roads" ["houses", "sets", "verdict"] spJudge := by
  obtain ⟨f, fd, F, g, b⟩ := D
  obtain ⟨_, _, G_bound, g_bound, kp_bound, b_bound⟩ := C1
  obtain ⟨_, _, G_is_roads_verdict, g_is_roads_verdict, kp_is_roads_verdict, b_is_roads_verdict⟩ := C2
  obtain ⟨_, _, G_roads_fault, g_roads_fault, kp_roads_fault, b_roads_fault⟩ := C3
  obtain ⟨_, _, G_none_fault, g_none_fault, kp_none_fault, b_none_fault⟩ := C4
  obtain ⟨_, _, G_hangs_together, g_hangs_together, kp_hangs_together, b_hangs_together⟩ := C5
  refine ⟨f, fd, F.ok sc_judge_roads (gsp_len (n := 3) fun _ => rfl) (fun cdv A outer s H vs Q E hr h => ?_), g, F.kp, b⟩
  refine ⟨_, (pss_cons (ps_expr (pe_call G_bound (hr.mono (by decide)) (by rfl) g_bound kp_bound b_bound .nil pass0 (pa_cons pe_str (pa_cons (pv 0) pa_nil)))) (pss_cons (ps_setLc (i := 1) (own := [("members", 5)]) (by rfl) sc_judge_roads.nd rfl rfl (sw_true rfl rfl rfl (by decide +kernel)) (k_pil (K := K) rfl (pv 1)) (blkOk_by (own := [("members", 5)]) (N := ["houses", "sets", "verdict", "fault", "k", "members", "house"]) (sc := defScope s_judge_roads) (by decide +kernel)) (fun _ _ _ _ _ => (pg_name (i := 5) sc_judge_roads.nd rfl (Or.inl rfl))) (fun _ _ _ _ _ => pts_nil) (fun _ _ _ _ _ => (pe_callB (k_sset (w := w) rfl rfl) (by rfl) T.sorted_ (by decide +kernel) (pa_cons (k_sci (w := w) rfl (pe_sci (own := [("house", 6)]) (by rfl) sc_judge_roads.nd (k_pil (K := K) rfl (pv 5)) (blkOk_by (own := [("house", 6)]) (by rfl)) (fun _ _ _ _ _ => (pg_name (i := 6) sc_judge_roads.nd rfl (Or.inl rfl))) (fun _ _ _ _ _ => pts_nil) (fun _ _ _ _ _ => (pv 6)))) pa_nil)))) (pss_cons (ps_if (pt_not (pt_val (pe_call G_is_roads_verdict (hr.mono (by decide)) (by rfl) g_is_roads_verdict kp_is_roads_verdict b_is_roads_verdict .nil pass0 (pa_cons (pv 2) pa_nil)))) (pss_one (ps_ret (pe_tup (pa_cons pe_str pa_nil)))) pss_nil) (pss_cons (ps_set (i := 3) sc_judge_roads.nd rfl (Or.inl rfl) (pe_call G_roads_fault (hr.mono (by decide)) (by rfl) g_roads_fault kp_roads_fault b_roads_fault .nil pass0 (pa_cons (pv 0) (pa_cons (pe_callTy (k_list (K := K) rfl) (by rfl) T.list_ (by decide +kernel) (pa_cons (pe_ix (k_ixT (K := K) rfl) (pv 2) pe_int (fun _ _ => rfl)) pa_nil)) pa_nil)))) (pss_cons (ps_if (pt_cmp (pc_notN (pv 3)) rfl) (pss_one (ps_ret (pv 3))) pss_nil) (pss_cons (ps_if (pt_cmpR op_eq (pe_ix (k_ixT (K := K) rfl) (pv 2) pe_int (fun _ _ => rfl)) pe_str (nomark _)) (pss_one (ps_ret (pe_call G_none_fault (hr.mono (by decide)) (by rfl) g_none_fault kp_none_fault b_none_fault .nil pass0 (pa_cons (pv 0) (pa_cons (pv 1) (pa_cons (pv 2) pa_nil)))))) pss_nil) (pss_cons (ps_for PassesOwn.never rfl (pi_enum (by rfl) T.enumerate_ (pa_cons (pv 1) pa_nil)) (k_pgt (K := K) (n := 2) rfl (by rfl) (pgs_cons (pg_name (i := 4) sc_judge_roads.nd rfl (Or.inl rfl)) (pgs_cons (pg_name (i := 5) sc_judge_roads.nd rfl (Or.inl rfl)) pgs_nil)) (by rfl) (by rfl)) (pss_one (ps_if (pt_not (pt_val (pe_call G_hangs_together (hr.mono (by decide)) (by rfl) g_hangs_together kp_hangs_together b_hangs_together .nil pass0 (pa_cons (pv 5) (pa_cons (pe_ix (k_ixT (K := K) rfl) (pv 2) pe_int (fun _ _ => rfl)) pa_nil))))) (pss_one (ps_ret (pe_tup (pa_cons pe_str (pa_cons (pe_op op_add (pv 4) pe_int) pa_nil))))) pss_nil))) (pss_one (ps_ret pe_non))))))))), ?_⟩
  refine gsp_body (n := 3) (m := 4) (fun _ => rfl) rfl (fun x hx => ?_) vs H Q E h
  obtain ⟨h, ss, v⟩ := x
  dsimp only at hx ⊢
  obtain ⟨⟨h1, h2⟩, hs, hm, hv⟩ := hx
  repeat walk_at "h"
  refine ⟨h, .cons rfl (.cons rfl .nil), h2, ?_⟩
  rintro _ rfl
  refine rp_d ?_
  with_reducible refine gs_seq ?_
  with_reducible refine gs_set ?_
  with_reducible refine ge_fz ?_
  with_reducible refine ge_lcMap ss dI (fun m => dI (bare h m)) ?_
  with_reducible refine gi_list ?_
  repeat walk_at "h"
  refine ⟨rfl, rfl, by omega, fun m hmm => ?_, fz_new ?_⟩
  · repeat walk_at "t"
    refine ge_sortedSet ?_
    repeat walk_at "h"
    refine ⟨rfl, by rw [List.length_map]; exact (hm m hmm).1, fun i => m.getD i 0, fun i d hd => ?_, fun ns hns hk => ?_⟩
    · obtain ⟨x, hx, rfl⟩ := mp_at hd
      repeat walk_at "t"
      refine gt_yes ⟨rfl, rfl, ?_⟩
      repeat walk_at "h"
      exact ⟨rfl, by show _ = D.dat (PyData.int (m.getD i 0)); rw [List.getD_eq_getElem?_getD, hx] <;> rfl⟩
    · have e : ns = bare h m := bare_is (hm m hmm).2 hns fun k => by
        rw [hk k, List.length_map]
        constructor
        · rintro ⟨i, hi, rfl⟩
          show m.getD i 0 ∈ m
          rw [List.getD_eq_getElem?_getD, List.getElem?_eq_getElem hi]
          exact List.getElem_mem hi
        · intro z
          obtain ⟨i, hi, e⟩ := List.mem_iff_getElem.1 z
          exact ⟨i, hi, by show m.getD i 0 = k; rw [List.getD_eq_getElem?_getD, List.getElem?_eq_getElem hi, e] <;> rfl⟩
      subst e
      exact ⟨PreM.app _ _, Nat.le_refl _, _, by rw [List.getElem?_append_right (Nat.le_refl _), Nat.sub_self] <;> rfl, rfl⟩
  have em : (ss.map fun m => dI (bare h m)) = (ss.map (bare h)).map dI := by rw [List.map_map] <;> rfl
  rw [em]
  have hs' : (ss.map (bare h)).length < 1000 := by rw [List.length_map]; exact hs
  generalize eb : ss.map (bare h) = bs at hs' ⊢
  repeat walk_at "h"
  refine ⟨v, .cons rfl .nil, hv, ?_⟩
  rintro _ rfl
  refine rp_d ?_
  repeat walk_at "h"
  refine ⟨fun z => ?_, fun z => ?_⟩
  · repeat walk_at "h"
    refine rt_d ⟨dForm, ?_, rfl⟩
    rcases formOf_cases v with e | ⟨rd, rs, e0, e1, e⟩ | ⟨rd, rs, u, w, e0, e1, e⟩
    · unfold JD; rw [e]
    · unfold formOk at z; rw [e] at z; cases z
    · unfold formOk at z; rw [e] at z; cases z
  have hok : formOk v = true := by simpa using z
  have hcase : ∃ rd rs t r, v = .tuple (.str t :: rd :: r) ∧ rowsOf rd = some rs ∧ ((t = "tree" ∧ r = [] ∧ formOf v = .tree rs) ∨ (t = "none" ∧ ∃ u w, r = [.int u, .int w] ∧ formOf v = .none rs u w)) := by
    rcases formOf_cases v with e | ⟨rd, rs, e0, e1, e⟩ | ⟨rd, rs, u, w, e0, e1, e⟩
    · unfold formOk at hok; rw [e] at hok; cases hok
    · exact ⟨rd, rs, _, _, e0, e1, .inl ⟨rfl, rfl, e⟩⟩
    · exact ⟨rd, rs, _, _, e0, e1, .inr ⟨rfl, _, _, rfl, e⟩⟩
  obtain ⟨rd, rs, t, r, rfl, hrd, hfm⟩ := hcase
  have hrl : rs.length < 1000 ∧ (rd = .list (rs.map prP) ∨ (rd = .tuple (rs.map prP) ∧ t = "none")) := by
    rcases hv with ⟨t', r', e, ht, hl, hrow⟩ | ⟨ds, e⟩ | e
    · cases e
      obtain ⟨ds, hds, hdd⟩ := hrow rd r rfl
      have hq := rowsOf_some hrd
      rcases hdd with rfl | ⟨rfl, et⟩
      · rcases hq with e | e
        · cases e; rw [List.length_map] at hds; exact ⟨hds, .inl rfl⟩
        · cases e
      · rcases hq with e | e
        · cases e
        · cases e; rw [List.length_map] at hds; exact ⟨hds, .inr ⟨rfl, et⟩⟩
    · cases e
    · cases e
  obtain ⟨hrl, hrd2⟩ := hrl
  repeat walk_at "h"
  refine cg_list (ds := rs.map prP) ?_ ?_
  · rcases hrd2 with rfl | ⟨rfl, _⟩
    · exact .inl rfl
    · exact .inr rfl
  repeat walk_at "h"
  refine ⟨(h, rs), .cons rfl (.cons rfl .nil), ⟨h1, (show h ≤ 1000 by omega), (show rs.length ≤ 1000 by omega)⟩, ?_⟩
  rintro _ ⟨d, hd, rfl⟩
  have hd : RF h rs d := hd
  refine rp_d ?_
  repeat walk_at "h"
  have jd : ∀ e, ((d ≠ .none ∧ e = d) ∨ (d = .none ∧ ((t = "tree" ∧ SF bs rs e) ∨ ∃ u w, t = "none" ∧ r = [.int u, .int w] ∧ NF h bs rs u w e))) → JD h bs (.tuple (.str t :: rd :: r)) e := fun e he => by
    rcases hfm with ⟨z1, z2, z3⟩ | ⟨z1, u, w, z2, z3⟩
    · unfold JD; rw [z3]
      refine ⟨d, hd, he.imp id fun ⟨y1, y2⟩ => ⟨y1, ?_⟩⟩
      rcases y2 with y2 | ⟨u, w, y2, _⟩
      · exact y2.2
      · exact absurd (z1.symm.trans y2) tree_none
    · unfold JD; rw [z3]
      refine ⟨d, hd, he.imp id fun ⟨y1, y2⟩ => ⟨y1, ?_⟩⟩
      rcases y2 with y2 | ⟨u', w', y2, y3, y4⟩
      · exact absurd (y2.1.symm.trans z1) tree_none
      · rw [z2] at y3; cases y3; exact y4
  refine ⟨fun z => ?_, fun z => ?_⟩
  · repeat walk_at "h"
    refine rt_d ⟨_, jd _ (.inl ⟨fun e => ?_, rfl⟩), rfl⟩
    subst e
    cases z
  have z3 : d = .none := (isN_iff d).1 (by simpa using z)
  subst z3
  have tr := hd.tree
  repeat walk_at "h"
  refine ⟨fun z => ?_, fun z => ?_⟩
  · have et : t = "none" := of_decide_eq_true z
    subst et
    obtain ⟨u, w, er, _⟩ : ∃ u w, r = [.int u, .int w] ∧ formOf (.tuple (.str "none" :: rd :: r)) = .none rs u w := by
      rcases hfm with ⟨z1, _⟩ | ⟨_, z⟩
      · exact absurd z1.symm tree_none
      · exact z
    subst er
    repeat walk_at "h"
    refine ⟨(h, bs, rs, rd, u, w), .cons rfl (.cons rfl (.cons rfl .nil)), ⟨tr, ⟨h1, h2⟩, hs', hrd⟩, ?_⟩
    rintro _ ⟨e, he, rfl⟩
    exact rp_d (rt_d ⟨_, jd _ (.inr ⟨rfl, .inr ⟨u, w, rfl, rfl, he⟩⟩), rfl⟩)
  · have et : t ≠ "none" := of_decide_eq_false z
    have et2 : t = "tree" := hfm.elim And.left fun z => absurd z.1 et
    have erd : rd = .list (rs.map prP) := hrd2.elim id fun z => absurd z.2 et
    subst erd
    repeat walk_at "h"
    refine gs_for [4, 5] ?_
    repeat walk_at "h"
    refine ⟨fun i Γ M => ∃ o4 o5 o6, Γ = [some (.dat (.int h)), some (.dat (.list (bs.map dI))), some (.dat (.tuple (.str t :: .list (rs.map prP) :: r))), some (.dat .none), o4, o5, o6] ∧ (∃ N, M = .bor (ss.map dI) :: N) ∧ ∀ (j : Nat) m, j < i → bs[j]? = some m → hangs rs m, ⟨none, none, none, rfl, ⟨_, rfl⟩, fun j m z => absurd z (Nat.not_lt_zero j)⟩, ?_, ?_, ?_⟩
    · rintro i Γ M _
      rfl
    · rintro i d Γ M hd ⟨o4, o5, o6, rfl, ⟨N, rfl⟩, c⟩
      obtain ⟨x, hx, rfl⟩ := enum_get hd
      obtain ⟨m, hm', rfl⟩ := mp_at hx
      repeat walk_at "t"
      repeat walk_at "h"
      refine ⟨(m, rs), .cons rfl (.cons rfl .nil), (show rs.length < 1000 by omega), ?_⟩
      rintro _ rfl
      refine rp_d ?_
      repeat walk_at "h"
      refine ⟨fun z => ?_, fun z => ?_⟩
      · repeat walk_at "h"
        refine rt_d ⟨_, jd _ (.inr ⟨rfl, .inl ⟨et2, .inr ⟨i, m, hm', fun y => ?_, fun j m' hj hm2 => c j m' hj hm2, rfl⟩⟩⟩), rfl⟩
        have y : (within rs m).length + 1 = m.length := y
        rw [decide_eq_true y] at z
        cases z
      · repeat walk_at "h"
        refine ⟨_, _, _, rfl, ⟨N, rfl⟩, fun j m' hj hm2 => ?_⟩
        by_cases e : j = i
        · subst e
          rw [hm'] at hm2
          cases hm2
          show (within rs m).length + 1 = m.length
          simpa using z
        · exact c j m' (by omega) hm2
    · rintro Γ M ⟨o4, o5, o6, rfl, ⟨N, rfl⟩, c⟩
      rw [enum_len, List.length_map] at c
      repeat walk_at "h"
      refine rt_d ⟨_, jd _ (.inr ⟨rfl, .inl ⟨et2, .inl ⟨rfl, fun k m hk => c k m (List.getElem?_eq_some_iff.1 hk).1 hk⟩⟩⟩), rfl⟩
end
end K99

namespace K99
open PySem PySem.Spec PyProof.Rows L2 GL Gr
local macro_rules | `(tactic| walk_at "g") => `(tactic| first
  | (with_reducible refine gs_seq ?_)
  | (with_reducible refine gs_set ?_)
  | (with_reducible refine gs_ret ?_)
  | (with_reducible refine gs_if ?_)
  | (with_reducible refine gs_drop ?_)
  | (with_reducible refine gs_next ?_)
  | ((with_reducible refine ge_var (d := ?dv) ?hv ?pv); (case hv => exact rfl))
  | (with_reducible refine ge_int ?_)
  | (with_reducible refine ge_bl ?_)
  | (with_reducible refine ge_str ?_)
  | (with_reducible refine ge_non ?_)
  | (with_reducible refine ge_cat ?_)
  | (with_reducible refine ge_ov ?_)
  | (with_reducible refine og_ov ?_)
  | (with_reducible refine ge_chain3 ?_)
  | (with_reducible refine ge_listRg1 ?_)
  | (with_reducible refine ge_isi ?_)
  | (with_reducible refine ge_isi2 ?_)
  | (with_reducible refine ge_cb ?_)
  | (with_reducible refine ga_nil ?_)
  | (with_reducible refine ga_cons ?_)
  | (with_reducible refine ge_andV ?_)
  | (with_reducible refine ge_orV ?_)
  | (with_reducible refine ge_notV ?_)
  | (with_reducible refine ge_isN ?_)
  | (with_reducible refine ge_notN ?_)
  | (with_reducible refine ge_if ?_)
  | (with_reducible refine ge_tup ?_)
  | (with_reducible refine ge_lst ?_)
  | (with_reducible refine ge_slL ?_)
  | (with_reducible refine ge_slT ?_)
  | (with_reducible refine go_none ?_)
  | (with_reducible refine go_some ?_)
  | (with_reducible refine gt_test ?_)
  | (with_reducible refine gt_B ?_)
  | (with_reducible refine gt_and ?_)
  | (with_reducible refine gt_or ?_)
  | (with_reducible refine gt_not ?_)
  | (with_reducible refine gi_list ?_)
  | (with_reducible refine gi_tup ?_)
  | (with_reducible refine gi_rng1 ?_)
  | (with_reducible refine gi_rng2 ?_)
  | (with_reducible refine gi_rng3 ?_)
  | (with_reducible refine gi_enum ?_)
  | (with_reducible refine gi_zipT ?_)
  | (with_reducible refine gs_asg _ ?_)
  | (with_reducible refine gg_name (by decide) ?_)
  | ((with_reducible refine gg_tup ?hn ?hg); (case hn => exact rfl))
  | (with_reducible refine ggs_cons ?_)
  | (with_reducible refine ggs_nil ?_)
  | (with_reducible refine ge_append ?_)
  | (with_reducible refine ge_popAt ?_)
  | (with_reducible refine ge_dget ?_)
  | (with_reducible refine ge_din ?_)
  | (with_reducible refine ge_dnotin ?_)
  | (with_reducible refine gs_dput ?_)
  | (with_reducible refine ge_call ?_)
  | (with_reducible refine ge_callS ?_)
  | (refine ⟨_, ov_I0i, ?_⟩)
  | (refine ⟨_, ov_I0b, ?_⟩)
  | (refine ⟨_, ov_isin rfl, ?_⟩)
  | (refine ⟨_, ov_notin rfl, ?_⟩)
  | (refine ⟨_, ov_eq rfl, ?_⟩)
  | (refine ⟨_, ov_ne rfl, ?_⟩)
  | (refine cg_len (.inl rfl) ?_)
  | (refine cg_len (.inr rfl) ?_)
  | (refine ⟨_, ov_ixT rfl rfl, ?_⟩)
  | (refine ⟨_, ov_ixL rfl rfl, ?_⟩)
  | (refine ⟨_, ov_ixT rfl (atI_nat (j := 0) rfl), ?_⟩)
  | (refine ⟨_, ov_ixL rfl (atI_nat (j := 0) rfl), ?_⟩)
  | (refine ⟨_, ov_ixT rfl (atI_nat (j := 1) rfl), ?_⟩)
  | (refine ⟨_, ov_ixL rfl (atI_nat (j := 1) rfl), ?_⟩)
  | (refine ⟨_, ov_ixT rfl (atI_nat (j := 2) rfl), ?_⟩)
  | (refine ⟨_, ov_ixL rfl (atI_nat (j := 2) rfl), ?_⟩)
  | (refine ⟨_, ov_ixT rfl (atI_nat (j := 3) rfl), ?_⟩)
  | (refine ⟨_, ov_ixL rfl (atI_nat (j := 3) rfl), ?_⟩)
  | (refine ⟨_, _, rfl, kit_int _, ?_⟩)
  | (refine ⟨_, _, rfl, kit_bool _, ?_⟩)
  | (refine ⟨_, _, rfl, kit_str _, ?_⟩)
  | (refine ⟨_, _, rfl, kit_tuple _, ?_⟩)
  | (refine ⟨_, _, rfl, kit_list _, ?_⟩)
  | (refine ⟨_, _, rfl, kit_dict _, ?_⟩)
  | (refine ⟨_, _, rfl, kit_lt _, ?_⟩)
  | (refine ⟨_, rfl, ?_⟩))
local macro_rules | `(tactic| walk_at "t") => `(tactic| first
  | (with_reducible refine gg_name (by decide) ?_)
  | ((with_reducible refine gg_tup ?hn ?hg); (case hn => exact rfl))
  | (with_reducible refine ggs_cons ?_)
  | (with_reducible refine ggs_nil ?_))

local macro_rules | `(tactic| walk_at "h") => `(tactic| first
  | (with_reducible refine ge_kdict ?_)
  | walk_at "g"
  | (with_reducible refine gs_setS ?_)
  | (refine ⟨_, ov_ixS rfl rfl, ?_⟩)
  | (refine ⟨_, ov_Ii (C := CMul) (.inr ⟨by decide, by decide⟩), ?_⟩)
  | (refine ⟨_, ov_Ii (C := fun _ j => j ≠ 0) (by decide), ?_⟩)
  | (refine ⟨_, ov_Ii (C := CDivN) ⟨by decide, by decide⟩, ?_⟩)
  | (refine ⟨_, ov_Ii (C := CPow) ⟨by decide, by decide, by decide⟩, ?_⟩)
  | (refine ⟨[_], rfl, (show 1 ≤ 100000 by decide /-tup2-/), ?_⟩)
  | (refine ⟨[_, _], rfl, (show 2 ≤ 100000 by decide), ?_⟩)
  | (refine ⟨[_, _, _], rfl, (show 3 ≤ 100000 by decide), ?_⟩)
  | (refine ⟨[_, _, _, _], rfl, (show 4 ≤ 100000 by decide), ?_⟩)
  | (refine ⟨_, _, rfl, rfl, ?_⟩)
  | (refine ⟨_, _, rfl, ?_⟩))
local macro_rules | `(tactic| walk_at "s") => `(tactic| first
  | (with_reducible refine gs_retS 0 ?_)
  | walk_at "h")

theorem cut_map {α : Type} (f : α → PyData) (xs : List α) (lo hi : Option Int) : ∃ n m, GL.cutD (xs.map f) lo hi = ((xs.drop n).take m).map f := by
  unfold GL.cutD
  exact ⟨_, _, by rw [List.map_take, List.map_drop]⟩
theorem fmod_at (x : Int) {m : Int} (h : 0 < m) : 0 ≤ x.fmod m ∧ x.fmod m < m := ⟨Int.fmod_nonneg_of_pos x h, Int.fmod_lt_of_pos x h⟩
theorem cons_eraseIdx {α : Type} : ∀ {l : List α} {i : Nat} (h : i < l.length), (l[i] :: l.eraseIdx i).Perm l
  | a :: l, 0, _ => .refl _
  | a :: l, i + 1, h => by
    have h' : i < l.length := Nat.lt_of_succ_lt_succ h
    exact (List.Perm.swap a l[i] (l.eraseIdx i)).trans ((cons_eraseIdx h').cons a)
section
variable {P : Program} {w : World} {K : PySem.W.Frag} {mg : Str → Option Value} {base : Heap}
abbrev s__law_source : Stmt := topS 21
theorem sc__law_source : FnScope ["script", "at", "limit", "cells", "state", "cell", "great"] ["script", "at"] (defScope s__law_source) := ⟨rfl, rfl, rfl, by decide +kernel, rfl, by decide +kernel, by decide +kernel⟩
abbrev spSource : Sp := GSp false (fun x : List Int × Int => [.bor (x.1.map .int), .dat (.int x.2)]) (fun x => x.1.length ≤ 63) fun x r => ∃ a b c : Int, r = .new (.lst [.int a, .int b, .int c])
theorem cal__law_source (D : DefF K mg "_law_source" s__law_source ["script", "at"]) (T : Txt mg) : Cal P w K mg base CX0 1 "_law_source" ["script", "at"] spSource := by
  obtain ⟨f, fd, F, g, b⟩ := D
  refine ⟨f, fd, F.ok sc__law_source (gsp_len (n := 2) fun _ => rfl) (fun cdv A outer s H vs Q E hr h => ?_), g, F.kp, b⟩
  refine ⟨_, (pss_cons (ps_set (i := 2) sc__law_source.nd rfl (Or.inr rfl) (pe_op op_mulW (pe_op op_mulW (pe_op op_mulW (pe_op op_mulW (pe_op op_mulW (pe_op op_pow pe_int pe_int) (pe_op op_pow pe_int pe_int)) (pe_op op_pow pe_int pe_int)) (pe_op op_pow pe_int pe_int)) (pe_op op_pow pe_int pe_int)) (pe_op op_pow pe_int pe_int))) (pss_cons (ps_setLc (i := 3) (own := [("cell", 5)]) (by rfl) sc__law_source.nd rfl rfl (sw_true rfl rfl rfl (by decide +kernel)) (k_pil (K := K) rfl (pe_slice (k_slL (K := K) rfl) (pv 0) po_none (po_some pe_int))) (blkOk_by (own := [("cell", 5)]) (N := ["script", "at", "limit", "cells", "state", "cell", "great"]) (sc := defScope s__law_source) (by decide +kernel)) (fun _ _ _ _ _ => (pg_name (i := 5) sc__law_source.nd rfl (Or.inl rfl))) (fun _ _ _ _ _ => pts_nil) (fun _ _ _ _ _ => (pe_op op_modN (pe_callTy call_int1 (by rfl) T.int_ (by decide +kernel) (pa_cons (pv 5) pa_nil)) (pv 2)))) (pss_cons (ps_set (i := 4) sc__law_source.nd rfl (Or.inl rfl) (pe_op op_add pe_int (pe_op op_mul (pv 1) pe_int))) (pss_cons (ps_for PassesOwn.never rfl (k_pil (K := K) rfl (pv 3)) (pg_name (i := 5) sc__law_source.nd rfl (Or.inl rfl)) (pss_one (ps_set (i := 4) sc__law_source.nd rfl (Or.inl rfl) (pe_op op_modN (pe_op op_add (pe_op op_add (pe_op op_mul (pv 4) pe_int) (pe_op op_modN (pv 5) pe_int)) pe_int) pe_int)))) (pss_cons (ps_set (i := 6) sc__law_source.nd rfl (Or.inl rfl) (pe_ifExp (pt_cmpR op_gt (pe_callB (k_len (K := K) rfl) (by rfl) T.len_ (by decide +kernel) (pa_cons (pv 3) pa_nil)) pe_int (nomark _)) (pe_ix (k_ixL (K := K) rfl) (pv 3) (pe_op op_modN (pv 1) (pe_callB (k_len (K := K) rfl) (by rfl) T.len_ (by decide +kernel) (pa_cons (pv 3) pa_nil))) (fun _ _ => rfl)) pe_int)) (pss_one (ps_ret (pe_lst (pa_cons (pe_ifExp (pt_cmpR op_ge (pv 6) (pe_op op_pow pe_int pe_int) (nomark _)) (pv 6) pe_int) (pa_cons (pv 4) (pa_cons (pe_op op_modN (pv 1) pe_int) pa_nil))))))))))), ?_⟩
  refine gsp_body (n := 2) (m := 5) (fun _ => rfl) rfl (fun x hx => ?_) vs H Q E h
  obtain ⟨ns, at_⟩ := x
  dsimp only at hx ⊢
  with_reducible refine gs_seq ?_
  with_reducible refine gs_set ?_
  refine GE.mono (P := fun d M' => M' = [.bor (ns.map .int)] ∧ ∃ L : Int, L ≠ 0 ∧ d = .dat (.int L)) ?_ ?_
  · repeat (first | walk_at "h" | (refine ⟨_, ov_Ii (C := CMulW) (by unfold CMulW; decide +kernel), ?_⟩))
    exact ⟨rfl, _, by decide +kernel, rfl⟩
  rintro _ _ ⟨rfl, L, hL, rfl⟩
  obtain ⟨n, m, ec⟩ := cut_map PyData.int ns none (some 63)
  have hlen : ((ns.drop n).take m).length ≤ 63 := by
    rw [List.length_take, List.length_drop]; omega
  generalize ((ns.drop n).take m) = xs at ec hlen
  with_reducible refine gs_seq ?_
  with_reducible refine gs_set ?_
  with_reducible refine ge_fz ?_
  with_reducible refine ge_lcMap xs PyData.int (fun x => PyData.int (x.fmod L)) ?_
  repeat walk_at "h"
  refine ⟨rfl, ec, by omega, fun x _ => ?_, ?_⟩
  · repeat walk_at "h"
    refine cg_int1 ?_
    repeat walk_at "h"
    refine ⟨_, ov_Ii (C := fun _ j => j ≠ 0) hL, ?_⟩
    exact ⟨PreM.rf _, rfl⟩
  refine ⟨PreM.app _ [_, _], _, ⟨(show 1 ≤ 2 by decide), _, rfl, rfl⟩, ?_⟩
  have ecs : (xs.map fun x => PyData.int (x.fmod L)) = (xs.map fun x => x.fmod L).map PyData.int := by rw [List.map_map] <;> rfl
  rw [ecs]
  have hcl : (xs.map fun x => x.fmod L).length ≤ 63 := by rw [List.length_map]; exact hlen
  generalize (xs.map fun x => x.fmod L) = cs at hcl
  repeat walk_at "h"
  refine gs_for [5] ?_
  repeat walk_at "h"
  refine ⟨fun i Γ M => ∃ (st : Int) (o5 : Option D), Γ = [some (.ref 0), some (.dat (.int at_)), some (.dat (.int L)), some (.dat (.list (cs.map .int))), some (.dat (.int st)), o5, none] ∧ M = [.bor (ns.map .int)], ⟨_, _, rfl, rfl⟩, fun _ _ _ _ => rfl, ?_, ?_⟩
  · rintro i d Γ M hd ⟨st, o5, rfl, rfl⟩
    obtain ⟨c, hc, rfl⟩ := mp_at hd
    repeat walk_at "t"
    repeat walk_at "h"
    rfl
  · rintro Γ M ⟨st, o5, rfl, rfl⟩
    repeat walk_at "h"
    rw [List.length_map]
    refine ⟨fun z => ?_, fun _ => ?_⟩
    · have z := of_decide_eq_true z
      repeat walk_at "h"
      rw [List.length_map]
      refine ⟨_, ov_Ii (C := fun _ j => j ≠ 0) (by omega), ?_⟩
      have hk := fmod_at at_ (m := (cs.length : Int)) (by omega)
      have hlt : (at_.fmod (cs.length : Int)).toNat < cs.length := by omega
      refine ⟨_, ov_ixL rfl (at_int (v := PyData.int cs[(at_.fmod (cs.length : Int)).toNat]) hk.1 (by rw [List.getElem?_map, List.getElem?_eq_getElem hlt] <;> rfl)), ?_⟩
      repeat walk_at "h"
      refine ⟨fun _ => ?_, fun _ => ?_⟩
      · repeat walk_at "h"
        exact rt_n rfl ⟨_, _, _, rfl⟩
      · repeat walk_at "h"
        exact rt_n rfl ⟨_, _, _, rfl⟩
    · repeat walk_at "h"
      refine ⟨fun _ => ?_, fun _ => ?_⟩
      · repeat walk_at "h"
        exact rt_n rfl ⟨_, _, _, rfl⟩
      · repeat walk_at "h"
        exact rt_n rfl ⟨_, _, _, rfl⟩
abbrev s__law_pick : Stmt := topS 22
theorem sc__law_pick : FnScope ["source", "many", "found", "state"] ["source", "many"] (defScope s__law_pick) := ⟨rfl, rfl, rfl, by decide +kernel, rfl, by decide +kernel, by decide +kernel⟩
abbrev spPick : Sp := GSp true (fun x : Int => [.dat (.int x)]) (fun x => 0 < x ∧ x ≤ 1000000) fun x r => ∃ y : Int, 0 ≤ y ∧ y < x ∧ r = .dat (.int y)
theorem cal__law_pick (D : DefF K mg "_law_pick" s__law_pick ["source", "many"]) (T : Txt mg) : Cal P w K mg base CX0 1 "_law_pick" ["source", "many"] spPick := by
  obtain ⟨f, fd, F, g, b⟩ := D
  refine ⟨f, fd, F.ok sc__law_pick (gsp_len (n := 1) fun _ => rfl) (fun cdv A outer s H vs Q E hr h => ?_), g, F.kp, b⟩
  refine ⟨_, (pss_cons (ps_if (pt_cmpR op_gt (pe_ix (k_ixL (K := K) rfl) (pv 0) pe_int (fun _ _ => rfl)) pe_int (nomark _)) (pss_cons (ps_set (i := 2) sc__law_pick.nd rfl (Or.inl rfl) (pe_op op_modN (pe_ix (k_ixL (K := K) rfl) (pv 0) pe_int (fun _ _ => rfl)) (pv 1))) (pss_cons (ps_asg (pe_op op_fdivN (pe_ix (k_ixL (K := K) rfl) (pv 0) pe_int (fun _ _ => rfl)) (pv 1)) (pg_sub (pv 0) pe_int set_list)) (pss_one (ps_ret (pv 2))))) pss_nil) (pss_cons (ps_asg (pe_op op_add (pe_ix (k_ixL (K := K) rfl) (pv 0) pe_int (fun _ _ => rfl)) pe_int) (pg_sub (pv 0) pe_int set_list)) (pss_cons (ps_set (i := 3) sc__law_pick.nd rfl (Or.inl rfl) (pe_op op_modN (pe_op op_add (pe_op op_add (pe_op op_mul (pe_ix (k_ixL (K := K) rfl) (pv 0) pe_int (fun _ _ => rfl)) pe_int) (pe_op op_mul (pe_ix (k_ixL (K := K) rfl) (pv 0) pe_int (fun _ _ => rfl)) pe_int)) pe_int) pe_int)) (pss_cons (ps_set (i := 3) sc__law_pick.nd rfl (Or.inl rfl) (pe_op op_modN (pe_op op_add (pe_op op_add (pe_op op_mul (pv 3) pe_int) (pe_op op_mul (pe_ix (k_ixL (K := K) rfl) (pv 0) pe_int (fun _ _ => rfl)) pe_int)) pe_int) pe_int)) (pss_cons (ps_asg (pv 3) (pg_sub (pv 0) pe_int set_list)) (pss_one (ps_ret (pe_op op_modN (pe_op op_fdivN (pv 3) pe_int) (pv 1))))))))), ?_⟩
  refine gsp_body (n := 1) (m := 2) (fun _ => rfl) rfl (fun x hx => ?_) vs H Q E h
  refine gs_open 0 rfl fun a b c => ?_
  obtain ⟨hx0, hx1⟩ := hx
  repeat walk_at "s"
  refine ⟨fun z => ?_, fun z => ?_⟩
  · repeat walk_at "s"
    refine ⟨_, ov_Ii (C := fun _ j => j ≠ 0) (by omega), ?_⟩
    repeat walk_at "s"
    refine ⟨_, ov_Ii (C := CDivN) ⟨by omega, by omega⟩, ?_⟩
    repeat walk_at "s"
    refine ⟨0, 0, _, _, _, rfl, rfl, rfl, by decide, ?_⟩
    repeat walk_at "s"
    have := fmod_at a hx0
    exact ⟨_, _, _, rfl, rt_dS ⟨_, this.1, this.2, rfl⟩ rfl⟩
  · repeat walk_at "s"
    refine ⟨2, 2, _, _, _, rfl, rfl, rfl, by decide, ?_⟩
    repeat walk_at "s"
    refine ⟨1, 1, _, _, _, rfl, rfl, rfl, by decide, ?_⟩
    repeat walk_at "s"
    refine ⟨_, ov_Ii (C := fun _ j => j ≠ 0) (by omega), ?_⟩
    have := fun y : Int => fmod_at y hx0
    exact ⟨_, _, _, rfl, rt_dS ⟨_, (this _).1, (this _).2, rfl⟩ rfl⟩
abbrev s__law_shuffled : Stmt := topS 23
theorem sc__law_shuffled : FnScope ["source", "things", "left", "found"] ["source", "things"] (defScope s__law_shuffled) := ⟨rfl, rfl, rfl, by decide +kernel, rfl, by decide +kernel, by decide +kernel⟩
abbrev spShuffled : Sp := GSp true (fun x : List PyData => [.bor x]) (fun x => x.length ≤ 1000) fun x r => ∃ es : List PyData, es.Perm x ∧ r = .new (.lst es)
theorem cal__law_shuffled (D : DefF K mg "_law_shuffled" s__law_shuffled ["source", "things"]) (T : Txt mg) (C : Cal P w K mg base CX0 1 "_law_pick" ["source", "many"] spPick) : Cal P w K mg base CX0 2 "_law_shuffled" ["source", "things"] spShuffled := by
  obtain ⟨f, fd, F, g, b⟩ := D
  obtain ⟨_, _, G__law_pick, g__law_pick, kp__law_pick, b__law_pick⟩ := C
  refine ⟨f, fd, F.ok sc__law_shuffled (gsp_len (n := 1) fun _ => rfl) (fun cdv A outer s H vs Q E hr h => ?_), g, F.kp, b⟩
  refine ⟨_, (pss_cons (ps_set (i := 2) sc__law_shuffled.nd rfl (Or.inl rfl) (pe_callTy (k_list (K := K) rfl) (by rfl) T.list_ (by decide +kernel) (pa_cons (pv 1) pa_nil))) (pss_cons (ps_set (i := 3) sc__law_shuffled.nd rfl (Or.inl rfl) (pe_lst pa_nil)) (pss_cons (ps_while PassesOwn.never (pt_cmpR op_gt (pe_callB (k_len (K := K) rfl) (by rfl) T.len_ (by decide +kernel) (pa_cons (pv 2) pa_nil)) pe_int (nomark _)) (pss_one (ps_expr (pe_bm PySem.F.plainAttrs_list PySem.F.slot_list_append PySem.F.type_list_append mt_append (pv 3) (pa_cons (pe_bm PySem.F.plainAttrs_list PySem.F.slot_list_pop PySem.F.type_list_pop mt_popAt (pv 2) (pa_cons (pe_call G__law_pick (hr.mono (by decide)) (by rfl) g__law_pick kp__law_pick b__law_pick .nil pass0 (pa_cons (pv 0) (pa_cons (pe_callB (k_len (K := K) rfl) (by rfl) T.len_ (by decide +kernel) (pa_cons (pv 2) pa_nil)) pa_nil))) pa_nil)) pa_nil))))) (pss_one (ps_ret (pv 3)))))), ?_⟩
  refine gsp_body (n := 1) (m := 2) (fun _ => rfl) rfl (fun x hx => ?_) vs H Q E h
  repeat walk_at "h"
  refine cg_list (.inl rfl) ?_
  repeat walk_at "h"
  refine ⟨[], rfl, Nat.zero_le _, ?_⟩
  repeat walk_at "h"
  refine gs_while (fun m Γ M => ∃ ls fs : List PyData, m = ls.length ∧ Γ = [some (.ref 0), some (.ref 1), some (.ref 2), some (.ref 3)] ∧ M = [.src, .bor x, .lst ls, .lst fs] ∧ (fs ++ ls).Perm x) ⟨_, x, [], rfl, rfl, rfl, .refl _⟩ ?_
  rintro m Γ M ⟨ls, fs, rfl, rfl, rfl, pm⟩
  have hl := pm.length_eq
  rw [List.length_append] at hl
  repeat walk_at "h"
  refine ⟨fun z => ?_, fun z => ?_⟩
  · have z := of_decide_eq_true z
    repeat walk_at "h"
    refine ⟨0, _, (ls.length : Int), rfl, rfl, .cons rfl .nil, ⟨by omega, by omega⟩, ?_⟩
    rintro _ ⟨y, y0, y1, rfl⟩
    refine rp_d ?_
    have hj : y.toNat < ls.length := by omega
    refine ⟨y.toNat, ls[y.toNat], ls, by rw [Int.toNat_of_nonneg y0], rfl, by omega, List.getElem?_eq_getElem hj, ?_⟩
    refine ⟨_, fs, rfl, rfl, by omega, ?_⟩
    refine ⟨_, ?_, _, _, rfl, rfl, rfl, ?_⟩
    · rw [List.length_eraseIdx_of_lt hj]; omega
    · rw [List.append_assoc]
      refine List.Perm.trans (List.Perm.append_left fs ?_) pm
      exact cons_eraseIdx hj
  · have z := of_decide_eq_false z
    have e : ls = [] := by
      cases ls with
      | nil => rfl
      | cons a ls => exact absurd (by rw [List.length_cons]; omega) z
    subst e
    repeat walk_at "h"
    rw [List.append_nil] at pm
    exact rt_nS rfl ⟨fs, pm, rfl⟩ rfl
end
end K99

namespace K99
open PySem PySem.Spec PyProof.Rows L2 GL Gr
local macro_rules | `(tactic| walk_at "g") => `(tactic| first
  | (with_reducible refine gs_seq ?_)
  | (with_reducible refine gs_set ?_)
  | (with_reducible refine gs_ret ?_)
  | (with_reducible refine gs_if ?_)
  | (with_reducible refine gs_drop ?_)
  | (with_reducible refine gs_next ?_)
  | ((with_reducible refine ge_var (d := ?dv) ?hv ?pv); (case hv => exact rfl))
  | (with_reducible refine ge_int ?_)
  | (with_reducible refine ge_bl ?_)
  | (with_reducible refine ge_str ?_)
  | (with_reducible refine ge_non ?_)
  | (with_reducible refine ge_cat ?_)
  | (with_reducible refine ge_ov ?_)
  | (with_reducible refine og_ov ?_)
  | (with_reducible refine ge_chain3 ?_)
  | (with_reducible refine ge_listRg1 ?_)
  | (with_reducible refine ge_isi ?_)
  | (with_reducible refine ge_isi2 ?_)
  | (with_reducible refine ge_cb ?_)
  | (with_reducible refine ga_nil ?_)
  | (with_reducible refine ga_cons ?_)
  | (with_reducible refine ge_andV ?_)
  | (with_reducible refine ge_orV ?_)
  | (with_reducible refine ge_notV ?_)
  | (with_reducible refine ge_isN ?_)
  | (with_reducible refine ge_notN ?_)
  | (with_reducible refine ge_if ?_)
  | (with_reducible refine ge_tup ?_)
  | (with_reducible refine ge_lst ?_)
  | (with_reducible refine ge_slL ?_)
  | (with_reducible refine ge_slT ?_)
  | (with_reducible refine go_none ?_)
  | (with_reducible refine go_some ?_)
  | (with_reducible refine gt_test ?_)
  | (with_reducible refine gt_B ?_)
  | (with_reducible refine gt_and ?_)
  | (with_reducible refine gt_or ?_)
  | (with_reducible refine gt_not ?_)
  | (with_reducible refine gi_list ?_)
  | (with_reducible refine gi_tup ?_)
  | (with_reducible refine gi_rng1 ?_)
  | (with_reducible refine gi_rng2 ?_)
  | (with_reducible refine gi_rng3 ?_)
  | (with_reducible refine gi_enum ?_)
  | (with_reducible refine gi_zipT ?_)
  | (with_reducible refine gs_asg _ ?_)
  | (with_reducible refine gg_name (by decide) ?_)
  | ((with_reducible refine gg_tup ?hn ?hg); (case hn => exact rfl))
  | (with_reducible refine ggs_cons ?_)
  | (with_reducible refine ggs_nil ?_)
  | (with_reducible refine ge_append ?_)
  | (with_reducible refine ge_popAt ?_)
  | (with_reducible refine ge_dget ?_)
  | (with_reducible refine ge_din ?_)
  | (with_reducible refine ge_dnotin ?_)
  | (with_reducible refine gs_dput ?_)
  | (with_reducible refine ge_call ?_)
  | (with_reducible refine ge_callS ?_)
  | (refine ⟨_, ov_I0i, ?_⟩)
  | (refine ⟨_, ov_I0b, ?_⟩)
  | (refine ⟨_, ov_isin rfl, ?_⟩)
  | (refine ⟨_, ov_notin rfl, ?_⟩)
  | (refine ⟨_, ov_eq rfl, ?_⟩)
  | (refine ⟨_, ov_ne rfl, ?_⟩)
  | (refine cg_len (.inl rfl) ?_)
  | (refine cg_len (.inr rfl) ?_)
  | (refine ⟨_, ov_ixT rfl rfl, ?_⟩)
  | (refine ⟨_, ov_ixL rfl rfl, ?_⟩)
  | (refine ⟨_, ov_ixT rfl (atI_nat (j := 0) rfl), ?_⟩)
  | (refine ⟨_, ov_ixL rfl (atI_nat (j := 0) rfl), ?_⟩)
  | (refine ⟨_, ov_ixT rfl (atI_nat (j := 1) rfl), ?_⟩)
  | (refine ⟨_, ov_ixL rfl (atI_nat (j := 1) rfl), ?_⟩)
  | (refine ⟨_, ov_ixT rfl (atI_nat (j := 2) rfl), ?_⟩)
  | (refine ⟨_, ov_ixL rfl (atI_nat (j := 2) rfl), ?_⟩)
  | (refine ⟨_, ov_ixT rfl (atI_nat (j := 3) rfl), ?_⟩)
  | (refine ⟨_, ov_ixL rfl (atI_nat (j := 3) rfl), ?_⟩)
  | (refine ⟨_, _, rfl, kit_int _, ?_⟩)
  | (refine ⟨_, _, rfl, kit_bool _, ?_⟩)
  | (refine ⟨_, _, rfl, kit_str _, ?_⟩)
  | (refine ⟨_, _, rfl, kit_tuple _, ?_⟩)
  | (refine ⟨_, _, rfl, kit_list _, ?_⟩)
  | (refine ⟨_, _, rfl, kit_dict _, ?_⟩)
  | (refine ⟨_, _, rfl, kit_lt _, ?_⟩)
  | (refine ⟨_, rfl, ?_⟩))
local macro_rules | `(tactic| walk_at "t") => `(tactic| first
  | (with_reducible refine gg_name (by decide) ?_)
  | ((with_reducible refine gg_tup ?hn ?hg); (case hn => exact rfl))
  | (with_reducible refine ggs_cons ?_)
  | (with_reducible refine ggs_nil ?_))

local macro_rules | `(tactic| walk_at "h") => `(tactic| first
  | (with_reducible refine ge_kdict ?_)
  | walk_at "g"
  | (with_reducible refine gs_setS ?_)
  | (refine ⟨_, ov_ixS rfl rfl, ?_⟩)
  | (refine ⟨_, ov_Ii (C := CMul) (.inr ⟨by decide, by decide⟩), ?_⟩)
  | (refine ⟨_, ov_Ii (C := fun _ j => j ≠ 0) (by decide), ?_⟩)
  | (refine ⟨_, ov_Ii (C := CDivN) ⟨by decide, by decide⟩, ?_⟩)
  | (refine ⟨_, ov_Ii (C := CPow) ⟨by decide, by decide, by decide⟩, ?_⟩)
  | (refine ⟨[_], rfl, (show 1 ≤ 100000 by decide /-tup2-/), ?_⟩)
  | (refine ⟨[_, _], rfl, (show 2 ≤ 100000 by decide), ?_⟩)
  | (refine ⟨[_, _, _], rfl, (show 3 ≤ 100000 by decide), ?_⟩)
  | (refine ⟨[_, _, _, _], rfl, (show 4 ≤ 100000 by decide), ?_⟩)
  | (refine ⟨_, _, rfl, rfl, ?_⟩)
  | (refine ⟨_, _, rfl, ?_⟩))
local macro_rules | `(tactic| walk_at "s") => `(tactic| first
  | (with_reducible refine gs_retS 0 ?_)
  | walk_at "h")

theorem perm_of_map {α β : Type} {f : α → β} {us vs : List β} (p : us.Perm vs) : ∀ {l : List α}, vs = l.map f → ∃ l' : List α, l'.Perm l ∧ us = l'.map f := by
  induction p with
  | nil =>
    intro l e
    cases l with
    | nil => exact ⟨[], .refl _, rfl⟩
    | cons a l => cases e
  | cons x _ ih =>
    intro l e
    cases l with
    | nil => cases e
    | cons a l =>
      rw [List.map_cons] at e
      injection e with e1 e2
      obtain ⟨l', p', e'⟩ := ih e2
      exact ⟨a :: l', p'.cons a, by rw [List.map_cons, e1, e']⟩
  | swap x y l0 =>
    intro l e
    match l, e with
    | [], e => cases e
    | [a], e => cases e
    | a :: b :: l, e =>
      rw [List.map_cons, List.map_cons] at e
      injection e with e1 e2
      injection e2 with e2 e3
      exact ⟨b :: a :: l, .swap _ _ _, by rw [List.map_cons, List.map_cons, e1, e2, e3]⟩
  | trans _ _ i1 i2 =>
    intro l e
    obtain ⟨l2, p2, e2⟩ := i2 e
    obtain ⟨l1, p1, e1⟩ := i1 e2
    exact ⟨l1, p1.trans p2, e1⟩
/-- data that the judge answers -/
def Sc (d : PyData) : Prop := d = .none ∨ (∃ i, d = .int i) ∨ ∃ s, d = .str s
def Simple (d : PyData) : Prop := Sc d ∨ ∃ ds, d = .tuple ds ∧ ∀ x ∈ ds, Sc x
theorem Simple.of1 (s : Str) : Simple (.tuple [.str s]) := .inr ⟨_, rfl, fun x hx => by rcases List.mem_cons.1 hx with e | e; exact .inr (.inr ⟨_, e⟩); cases e⟩
theorem Simple.of2 (s : Str) (i : Int) : Simple (.tuple [.str s, .int i]) := .inr ⟨_, rfl, fun x hx => by
  rcases List.mem_cons.1 hx with e | e
  · exact .inr (.inr ⟨_, e⟩)
  · rw [List.mem_singleton.1 e]; exact .inr (.inl ⟨_, rfl⟩)⟩
theorem Simple.of3 (s : Str) (i j : Int) : Simple (.tuple [.str s, .int i, .int j]) := .inr ⟨_, rfl, fun x hx => by
  rcases List.mem_cons.1 hx with e | e
  · exact .inr (.inr ⟨_, e⟩)
  · rcases List.mem_cons.1 e with e | e
    · exact .inr (.inl ⟨_, e⟩)
    · rw [List.mem_singleton.1 e]; exact .inr (.inl ⟨_, rfl⟩)⟩
theorem RF.simple {h : Int} {rs : List Road} {d : PyData} (x : RF h rs d) : Simple d := by
  rcases x with ⟨k, _, _, _, rfl⟩ | ⟨_, ⟨_, rfl⟩ | ⟨_, rfl⟩⟩
  · exact .of2 _ _
  · exact .of2 _ _
  · exact .inl (.inl rfl)
theorem LF.simple {h : Int} {ss : List (List Int)} {rs : List Road} {d : PyData} (x : LF h ss rs d) : Simple d := by
  rcases x with ⟨rfl, _⟩ | ⟨a, b, _, _, _, _, rfl, _⟩
  · exact .inl (.inl rfl)
  · exact .of3 _ _ _
theorem NF.simple {h : Int} {ss : List (List Int)} {rs : List Road} {u v : Int} {d : PyData} (x : NF h ss rs u v d) : Simple d := by
  rcases x with ⟨_, rfl⟩ | ⟨_, _, rfl⟩ | ⟨_, _, f, hf, ⟨_, rfl⟩ | ⟨_, ⟨_, rfl⟩ | ⟨_, rfl⟩⟩⟩
  · exact .of2 _ _
  · exact .of2 _ _
  · exact hf.simple
  · exact .inl (.inl rfl)
  · exact .of1 _
theorem SF.simple {ss : List (List Int)} {rs : List Road} {d : PyData} (x : SF ss rs d) : Simple d := by
  rcases x with ⟨rfl, _⟩ | ⟨k, m, _, _, _, rfl⟩
  · exact .inl (.inl rfl)
  · exact .of2 _ _
theorem JD.simple {h : Int} {ss : List (List Int)} {v d : PyData} (x : JD h ss v d) : Simple d := by
  unfold JD at x
  cases q : formOf v with
  | bad => rw [q] at x; subst x; exact .of1 _
  | tree rs =>
    rw [q] at x
    obtain ⟨f, hf, ⟨_, rfl⟩ | ⟨_, x⟩⟩ := x
    · exact hf.simple
    · exact x.simple
  | none rs u w =>
    rw [q] at x
    obtain ⟨f, hf, ⟨_, rfl⟩ | ⟨_, x⟩⟩ := x
    · exact hf.simple
    · exact x.simple
section
variable {P : Program} {w : World} {K : PySem.W.Frag} {mg : Str → Option Value} {base : Heap}
abbrev s__law_same : Stmt := topS 24
theorem sc__law_same : FnScope ["answer", "due", "key", "one", "other"] ["answer", "due"] (defScope s__law_same) := ⟨rfl, rfl, rfl, by decide +kernel, rfl, by decide +kernel, by decide +kernel⟩
abbrev spSame (p : PyData → Prop) : Sp := GSp false (fun x : PyData => [.dat x, .dat x]) p fun _ r => r = .dat (.bool true)
theorem cal_same0 (D : DefF K mg "_law_same" s__law_same ["answer", "due"]) : Cal P w K mg base CX0 1 "_law_same" ["answer", "due"] (spSame fun _ => False) := by
  obtain ⟨f, fd, F, g, b⟩ := D
  refine ⟨f, fd, F.ok sc__law_same (gsp_len (n := 2) fun _ => rfl) (fun cdv A outer s H vs Q E hr h => ?_), g, F.kp, b⟩
  obtain ⟨_, _, _, _, _, _, _, z, _⟩ := h
  exact z.elim
theorem cal_same1 (D : DefF K mg "_law_same" s__law_same ["answer", "due"]) (T : Txt mg) : Cal P w K mg base CX0 2 "_law_same" ["answer", "due"] (spSame Sc) := by
  obtain ⟨_, _, G__law_same, g__law_same, kp__law_same, b__law_same⟩ := cal_same0 (P := P) (w := w) (base := base) D
  obtain ⟨f, fd, F, g, b⟩ := D
  refine ⟨f, fd, F.ok sc__law_same (gsp_len (n := 2) fun _ => rfl) (fun cdv A outer s H vs Q E hr h => ?_), g, F.kp, b⟩
  refine ⟨_, (pss_cons (ps_if (pt_cmp (pc_isN (pv 1)) rfl) (pss_one (ps_ret (pe_cmp (pc_isN (pv 0)) rfl))) pss_nil) (pss_cons (ps_if (pt_val (pe_callB (k_isi (K := K) rfl) (by rfl) T.isinstance_ (by decide +kernel) (pa_cons (pv 1) (pa_cons (pe_bltn (v := .ty "bool") (by rfl) T.bool_ (by decide +kernel) rfl) pa_nil)))) (pss_one (ps_ret (pe_and (pe_callB (k_isi (K := K) rfl) (by rfl) T.isinstance_ (by decide +kernel) (pa_cons (pv 0) (pa_cons (pe_bltn (v := .ty "bool") (by rfl) T.bool_ (by decide +kernel) rfl) pa_nil))) (pe_one (pe_cmpR op_eq (pv 0) (pv 1) (nomark _)))))) pss_nil) (pss_cons (ps_if (pt_val (pe_callB (k_isi (K := K) rfl) (by rfl) T.isinstance_ (by decide +kernel) (pa_cons (pv 1) (pa_cons (pe_bltn (v := .ty "int") (by rfl) T.int_ (by decide +kernel) rfl) pa_nil)))) (pss_one (ps_ret (pe_and (pe_callB (k_isi (K := K) rfl) (by rfl) T.isinstance_ (by decide +kernel) (pa_cons (pv 0) (pa_cons (pe_bltn (v := .ty "int") (by rfl) T.int_ (by decide +kernel) rfl) pa_nil))) (pe_and (pe_not (pe_callB (k_isi (K := K) rfl) (by rfl) T.isinstance_ (by decide +kernel) (pa_cons (pv 0) (pa_cons (pe_bltn (v := .ty "bool") (by rfl) T.bool_ (by decide +kernel) rfl) pa_nil)))) (pe_one (pe_cmpR op_eq (pv 0) (pv 1) (nomark _))))))) pss_nil) (pss_cons (ps_if (pt_val (pe_callB (k_isi (K := K) rfl) (by rfl) T.isinstance_ (by decide +kernel) (pa_cons (pv 1) (pa_cons (pe_bltn (v := .ty "str") (by rfl) T.str_ (by decide +kernel) rfl) pa_nil)))) (pss_one (ps_ret (pe_and (pe_callB (k_isi (K := K) rfl) (by rfl) T.isinstance_ (by decide +kernel) (pa_cons (pv 0) (pa_cons (pe_bltn (v := .ty "str") (by rfl) T.str_ (by decide +kernel) rfl) pa_nil))) (pe_one (pe_cmpR op_eq (pv 0) (pv 1) (nomark _)))))) pss_nil) (pss_cons (ps_if (pt_val (pe_callB (k_isi (K := K) rfl) (by rfl) T.isinstance_ (by decide +kernel) (pa_cons (pv 1) (pa_cons (pe_bltn (v := .ty "dict") (by rfl) T.dict_ (by decide +kernel) rfl) pa_nil)))) pss_never pss_nil) (pss_cons (ps_if (pt_val (pe_callB (k_isi (K := K) rfl) (by rfl) T.isinstance_ (by decide +kernel) (pa_cons (pv 1) (pa_cons (pe_bltn (v := .ty "tuple") (by rfl) T.tuple_ (by decide +kernel) rfl) pa_nil)))) (pss_one (ps_if (pt_not (pt_val (pe_callB (k_isi (K := K) rfl) (by rfl) T.isinstance_ (by decide +kernel) (pa_cons (pv 0) (pa_cons (pe_bltn (v := .ty "tuple") (by rfl) T.tuple_ (by decide +kernel) rfl) pa_nil))))) (pss_one (ps_ret pe_bl)) pss_nil)) (pss_one (ps_if (pt_not (pt_val (pe_callB (k_isi (K := K) rfl) (by rfl) T.isinstance_ (by decide +kernel) (pa_cons (pv 0) (pa_cons (pe_bltn (v := .ty "list") (by rfl) T.list_ (by decide +kernel) rfl) pa_nil))))) (pss_one (ps_ret pe_bl)) pss_nil))) (pss_cons (ps_if (pt_cmpR op_ne (pe_callB (k_len (K := K) rfl) (by rfl) T.len_ (by decide +kernel) (pa_cons (pv 0) pa_nil)) (pe_callB (k_len (K := K) rfl) (by rfl) T.len_ (by decide +kernel) (pa_cons (pv 1) pa_nil)) (nomark _)) (pss_one (ps_ret pe_bl)) pss_nil) (pss_cons (ps_for PassesOwn.never rfl (RZ.pi_zipA (by rfl) T.zip_ (pa_cons (pv 0) (pa_cons (pv 1) pa_nil))) (k_pgt (K := K) (n := 2) rfl (by rfl) (pgs_cons (pg_name (i := 3) sc__law_same.nd rfl (Or.inl rfl)) (pgs_cons (pg_name (i := 4) sc__law_same.nd rfl (Or.inl rfl)) pgs_nil)) (by rfl) (by rfl)) (pss_one (ps_if (pt_not (pt_val (pe_call G__law_same (hr.mono (by decide)) (by rfl) g__law_same kp__law_same b__law_same .nil pass0 (pa_cons (pv 3) (pa_cons (pv 4) pa_nil))))) (pss_one (ps_ret pe_bl)) pss_nil))) (pss_one (ps_ret pe_bl)))))))))), ?_⟩
  refine gsp_body (n := 2) (m := 3) (fun _ => rfl) rfl (fun x hx => ?_) vs H Q E h
  repeat walk_at "h"
  rcases hx with rfl | ⟨i, rfl⟩ | ⟨t, rfl⟩
  · refine ⟨fun _ => ?_, fun z => (by cases z)⟩
    repeat walk_at "h"
    exact rt_d rfl
  · refine ⟨fun z => (by cases z), fun _ => ?_⟩
    repeat walk_at "h"
    refine ⟨fun z => (by cases z), fun _ => ?_⟩
    repeat walk_at "h"
    refine ⟨fun _ => ?_, fun z => (by cases z)⟩
    repeat walk_at "h"
    refine ⟨fun _ => ?_, fun z => (by cases z)⟩
    repeat walk_at "h"
    refine ⟨fun _ => ?_, fun z => (by cases z)⟩
    repeat walk_at "h"
    refine rt_d (congrArg (fun b => Rs.dat (.bool b)) ?_)
    simp
  · refine ⟨fun z => (by cases z), fun _ => ?_⟩
    repeat walk_at "h"
    refine ⟨fun z => (by cases z), fun _ => ?_⟩
    repeat walk_at "h"
    refine ⟨fun z => (by cases z), fun _ => ?_⟩
    repeat walk_at "h"
    refine ⟨fun _ => ?_, fun z => (by cases z)⟩
    repeat walk_at "h"
    refine ⟨fun _ => ?_, fun z => (by cases z)⟩
    repeat walk_at "h"
    refine rt_d (congrArg (fun b => Rs.dat (.bool b)) ?_)
    simp
theorem cal_same (D : DefF K mg "_law_same" s__law_same ["answer", "due"]) (T : Txt mg) : Cal P w K mg base CX0 3 "_law_same" ["answer", "due"] (spSame Simple) := by
  obtain ⟨_, _, G__law_same, g__law_same, kp__law_same, b__law_same⟩ := cal_same1 (P := P) (w := w) (base := base) D T
  have D0 := D
  obtain ⟨f, fd, F, g, b⟩ := D
  refine ⟨f, fd, F.ok sc__law_same (gsp_len (n := 2) fun _ => rfl) (fun cdv A outer s H vs Q E hr h => ?_), g, F.kp, b⟩
  refine ⟨_, (pss_cons (ps_if (pt_cmp (pc_isN (pv 1)) rfl) (pss_one (ps_ret (pe_cmp (pc_isN (pv 0)) rfl))) pss_nil) (pss_cons (ps_if (pt_val (pe_callB (k_isi (K := K) rfl) (by rfl) T.isinstance_ (by decide +kernel) (pa_cons (pv 1) (pa_cons (pe_bltn (v := .ty "bool") (by rfl) T.bool_ (by decide +kernel) rfl) pa_nil)))) (pss_one (ps_ret (pe_and (pe_callB (k_isi (K := K) rfl) (by rfl) T.isinstance_ (by decide +kernel) (pa_cons (pv 0) (pa_cons (pe_bltn (v := .ty "bool") (by rfl) T.bool_ (by decide +kernel) rfl) pa_nil))) (pe_one (pe_cmpR op_eq (pv 0) (pv 1) (nomark _)))))) pss_nil) (pss_cons (ps_if (pt_val (pe_callB (k_isi (K := K) rfl) (by rfl) T.isinstance_ (by decide +kernel) (pa_cons (pv 1) (pa_cons (pe_bltn (v := .ty "int") (by rfl) T.int_ (by decide +kernel) rfl) pa_nil)))) (pss_one (ps_ret (pe_and (pe_callB (k_isi (K := K) rfl) (by rfl) T.isinstance_ (by decide +kernel) (pa_cons (pv 0) (pa_cons (pe_bltn (v := .ty "int") (by rfl) T.int_ (by decide +kernel) rfl) pa_nil))) (pe_and (pe_not (pe_callB (k_isi (K := K) rfl) (by rfl) T.isinstance_ (by decide +kernel) (pa_cons (pv 0) (pa_cons (pe_bltn (v := .ty "bool") (by rfl) T.bool_ (by decide +kernel) rfl) pa_nil)))) (pe_one (pe_cmpR op_eq (pv 0) (pv 1) (nomark _))))))) pss_nil) (pss_cons (ps_if (pt_val (pe_callB (k_isi (K := K) rfl) (by rfl) T.isinstance_ (by decide +kernel) (pa_cons (pv 1) (pa_cons (pe_bltn (v := .ty "str") (by rfl) T.str_ (by decide +kernel) rfl) pa_nil)))) (pss_one (ps_ret (pe_and (pe_callB (k_isi (K := K) rfl) (by rfl) T.isinstance_ (by decide +kernel) (pa_cons (pv 0) (pa_cons (pe_bltn (v := .ty "str") (by rfl) T.str_ (by decide +kernel) rfl) pa_nil))) (pe_one (pe_cmpR op_eq (pv 0) (pv 1) (nomark _)))))) pss_nil) (pss_cons (ps_if (pt_val (pe_callB (k_isi (K := K) rfl) (by rfl) T.isinstance_ (by decide +kernel) (pa_cons (pv 1) (pa_cons (pe_bltn (v := .ty "dict") (by rfl) T.dict_ (by decide +kernel) rfl) pa_nil)))) pss_never pss_nil) (pss_cons (ps_if (pt_val (pe_callB (k_isi (K := K) rfl) (by rfl) T.isinstance_ (by decide +kernel) (pa_cons (pv 1) (pa_cons (pe_bltn (v := .ty "tuple") (by rfl) T.tuple_ (by decide +kernel) rfl) pa_nil)))) (pss_one (ps_if (pt_not (pt_val (pe_callB (k_isi (K := K) rfl) (by rfl) T.isinstance_ (by decide +kernel) (pa_cons (pv 0) (pa_cons (pe_bltn (v := .ty "tuple") (by rfl) T.tuple_ (by decide +kernel) rfl) pa_nil))))) (pss_one (ps_ret pe_bl)) pss_nil)) (pss_one (ps_if (pt_not (pt_val (pe_callB (k_isi (K := K) rfl) (by rfl) T.isinstance_ (by decide +kernel) (pa_cons (pv 0) (pa_cons (pe_bltn (v := .ty "list") (by rfl) T.list_ (by decide +kernel) rfl) pa_nil))))) (pss_one (ps_ret pe_bl)) pss_nil))) (pss_cons (ps_if (pt_cmpR op_ne (pe_callB (k_len (K := K) rfl) (by rfl) T.len_ (by decide +kernel) (pa_cons (pv 0) pa_nil)) (pe_callB (k_len (K := K) rfl) (by rfl) T.len_ (by decide +kernel) (pa_cons (pv 1) pa_nil)) (nomark _)) (pss_one (ps_ret pe_bl)) pss_nil) (pss_cons (ps_for PassesOwn.never rfl (RZ.pi_zipA (by rfl) T.zip_ (pa_cons (pv 0) (pa_cons (pv 1) pa_nil))) (k_pgt (K := K) (n := 2) rfl (by rfl) (pgs_cons (pg_name (i := 3) sc__law_same.nd rfl (Or.inl rfl)) (pgs_cons (pg_name (i := 4) sc__law_same.nd rfl (Or.inl rfl)) pgs_nil)) (by rfl) (by rfl)) (pss_one (ps_if (pt_not (pt_val (pe_call G__law_same (hr.mono (by decide)) (by rfl) g__law_same kp__law_same b__law_same .nil pass0 (pa_cons (pv 3) (pa_cons (pv 4) pa_nil))))) (pss_one (ps_ret pe_bl)) pss_nil))) (pss_one (ps_ret pe_bl)))))))))), ?_⟩
  refine gsp_body (n := 2) (m := 3) (fun _ => rfl) rfl (fun x hx => ?_) vs H Q E h
  repeat walk_at "h"
  rcases hx with (rfl | ⟨i, rfl⟩ | ⟨t, rfl⟩) | ⟨ds, rfl, hds⟩
  · refine ⟨fun _ => ?_, fun z => (by cases z)⟩
    repeat walk_at "h"
    exact rt_d rfl
  · refine ⟨fun z => (by cases z), fun _ => ?_⟩
    repeat walk_at "h"
    refine ⟨fun z => (by cases z), fun _ => ?_⟩
    repeat walk_at "h"
    refine ⟨fun _ => ?_, fun z => (by cases z)⟩
    repeat walk_at "h"
    refine ⟨fun _ => ?_, fun z => (by cases z)⟩
    repeat walk_at "h"
    refine ⟨fun _ => ?_, fun z => (by cases z)⟩
    repeat walk_at "h"
    refine rt_d (congrArg (fun b => Rs.dat (.bool b)) ?_)
    simp
  · refine ⟨fun z => (by cases z), fun _ => ?_⟩
    repeat walk_at "h"
    refine ⟨fun z => (by cases z), fun _ => ?_⟩
    repeat walk_at "h"
    refine ⟨fun z => (by cases z), fun _ => ?_⟩
    repeat walk_at "h"
    refine ⟨fun _ => ?_, fun z => (by cases z)⟩
    repeat walk_at "h"
    refine ⟨fun _ => ?_, fun z => (by cases z)⟩
    repeat walk_at "h"
    refine rt_d (congrArg (fun b => Rs.dat (.bool b)) ?_)
    simp
  · refine ⟨fun z => (by cases z), fun _ => ?_⟩
    repeat walk_at "h"
    refine ⟨fun z => (by cases z), fun _ => ?_⟩
    repeat walk_at "h"
    refine ⟨fun z => (by cases z), fun _ => ?_⟩
    repeat walk_at "h"
    refine ⟨fun z => (by cases z), fun _ => ?_⟩
    repeat walk_at "h"
    refine ⟨fun z => (by cases z), fun _ => ?_⟩
    repeat walk_at "h"
    refine ⟨fun _ => ?_, fun z => (by cases z)⟩
    repeat walk_at "h"
    refine ⟨fun z => (by cases z), fun _ => ?_⟩
    repeat walk_at "h"
    refine ⟨fun z => by simp at z, fun _ => ?_⟩
    repeat walk_at "h"
    refine gs_for [3, 4] ?_
    repeat walk_at "h"
    refine ⟨_, _, ds, ds, rfl, rfl, rfl, rfl, ?_⟩
    refine ⟨fun i Γ M => ∃ o3 o4, Γ = [some (.dat (.tuple ds)), some (.dat (.tuple ds)), none, o3, o4] ∧ M = [], ⟨none, none, rfl, rfl⟩, fun _ _ _ _ => trivial, ?_, ?_⟩
    · rintro i d Γ M hd ⟨o3, o4, rfl, rfl⟩
      obtain ⟨x, y, hx, hy, rfl⟩ := GL.zip_get hd
      rw [hx] at hy
      cases hy
      repeat walk_at "t"
      repeat walk_at "h"
      refine ⟨x, .cons rfl (.cons rfl .nil), hds x (List.mem_of_getElem? hx), ?_⟩
      rintro _ rfl
      refine rp_d ?_
      repeat walk_at "h"
      refine ⟨fun z => (by cases z), fun _ => ?_⟩
      repeat walk_at "h"
      rfl
    · rintro Γ M ⟨o3, o4, rfl, rfl⟩
      repeat walk_at "h"
      exact rt_d rfl
abbrev s__law_tree_roads : Stmt := topS 25
theorem sc__law_tree_roads : FnScope ["source", "many", "order", "found", "kind", "at", "other", "k"] ["source", "many"] (defScope s__law_tree_roads) := ⟨rfl, rfl, rfl, by decide +kernel, rfl, by decide +kernel, by decide +kernel⟩
abbrev spTree : Sp := GSp true (fun x : Int => [.dat (.int x)]) (fun x => 1 ≤ x ∧ x ≤ 12) fun x r => ∃ rs : List Road, r = .new (.lst (rs.map prP)) ∧ (rs.length : Int) = x - 1 ∧ ∀ r ∈ rs, r.1 ∈ upto x ∧ r.2 ∈ upto x
theorem upto_is (h : Int) : ((List.range h.toNat).map fun (i : Nat) => PyData.int (0 + (i : Int) + 1)) = (upto h).map PyData.int := by
  unfold upto
  rw [List.map_map]
  refine List.map_congr_left fun i _ => ?_
  show PyData.int (0 + (i : Int) + 1) = PyData.int ((i : Int) + 1)
  rw [Int.zero_add]
theorem cal__law_tree_roads (D : DefF K mg "_law_tree_roads" s__law_tree_roads ["source", "many"]) (T : Txt mg) (C1 : Cal P w K mg base CX0 1 "_law_pick" ["source", "many"] spPick) (C2 : Cal P w K mg base CX0 2 "_law_shuffled" ["source", "things"] spShuffled) :
    Cal P w K mg base CX0 3 "_law_tree_roads" ["source", "many"] spTree := by
  obtain ⟨f, fd, F, g, b⟩ := D
  obtain ⟨_, _, G__law_pick, g__law_pick, kp__law_pick, b__law_pick⟩ := C1
  obtain ⟨_, _, G__law_shuffled, g__law_shuffled, kp__law_shuffled, b__law_shuffled⟩ := C2
  refine ⟨f, fd, F.ok sc__law_tree_roads (gsp_len (n := 1) fun _ => rfl) (fun cdv A outer s H vs Q E hr h => ?_), g, F.kp, b⟩
  refine ⟨_, (pss_cons (ps_set (i := 2) sc__law_tree_roads.nd rfl (Or.inl rfl) (pe_call G__law_shuffled (hr.mono (by decide)) (by rfl) g__law_shuffled kp__law_shuffled b__law_shuffled .nil pass0 (pa_cons (pv 0) (pa_cons (pe_lc (own := [("k", 7)]) (by rfl) sc__law_tree_roads.nd (pi_range1 (by rfl) T.range_ (pa_cons (pv 1) pa_nil)) (blkOk_by (own := [("k", 7)]) (N := ["source", "many", "order", "found", "kind", "at", "other", "k"]) (sc := defScope s__law_tree_roads) (by decide +kernel)) (fun _ _ _ _ _ => (pg_name (i := 7) sc__law_tree_roads.nd rfl (Or.inl rfl))) (fun _ _ _ _ _ => pts_nil) (fun _ _ _ _ _ => (pe_op op_add (pv 7) pe_int))) pa_nil)))) (pss_cons (ps_set (i := 3) sc__law_tree_roads.nd rfl (Or.inl rfl) (pe_lst pa_nil)) (pss_cons (ps_set (i := 4) sc__law_tree_roads.nd rfl (Or.inl rfl) (pe_call G__law_pick (hr.mono (by decide)) (by rfl) g__law_pick kp__law_pick b__law_pick .nil pass0 (pa_cons (pv 0) (pa_cons pe_int pa_nil)))) (pss_cons (ps_for PassesOwn.never rfl (pi_range2 (by rfl) T.range_ (pa_cons pe_int (pa_cons (pv 1) pa_nil))) (pg_name (i := 5) sc__law_tree_roads.nd rfl (Or.inl rfl)) (pss_cons (ps_set (i := 6) sc__law_tree_roads.nd rfl (Or.inl rfl) (pe_ifExp (pt_cmpR op_eq (pv 4) pe_int (nomark _)) (pe_ix (k_ixL (K := K) rfl) (pv 2) (pe_op op_sub (pv 5) pe_int) (fun _ _ => rfl)) (pe_ix (k_ixL (K := K) rfl) (pv 2) (pe_call G__law_pick (hr.mono (by decide)) (by rfl) g__law_pick kp__law_pick b__law_pick .nil pass0 (pa_cons (pv 0) (pa_cons (pv 5) pa_nil))) (fun _ _ => rfl)))) (pss_one (ps_expr (pe_bm PySem.F.plainAttrs_list PySem.F.slot_list_append PySem.F.type_list_append mt_append (pv 3) (pa_cons (pe_tup (pa_cons (pe_callB (call_min2 rfl) (by rfl) T.min_ (by decide +kernel) (pa_cons (pe_ix (k_ixL (K := K) rfl) (pv 2) (pv 5) (fun _ _ => rfl)) (pa_cons (pv 6) pa_nil))) (pa_cons (pe_callB (call_max2 rfl) (by rfl) T.max_ (by decide +kernel) (pa_cons (pe_ix (k_ixL (K := K) rfl) (pv 2) (pv 5) (fun _ _ => rfl)) (pa_cons (pv 6) pa_nil))) pa_nil))) pa_nil)))))) (pss_one (ps_ret (pe_callB (k_sortedP (K := K) rfl) (by rfl) T.sorted_ (by decide +kernel) (pa_cons (pv 3) pa_nil)))))))), ?_⟩
  refine gsp_body (n := 1) (m := 6) (fun _ => rfl) rfl (fun n hx => ?_) vs H Q E h
  obtain ⟨hn, hn2⟩ := hx
  with_reducible refine gs_seq ?_
  with_reducible refine gs_set ?_
  with_reducible refine ge_fz ?_
  repeat walk_at "h"
  with_reducible refine ge_lcMap (List.range n.toNat) (fun (i : Nat) => PyData.int (0 + (i : Int))) (fun (i : Nat) => PyData.int (0 + (i : Int) + 1)) ?_
  repeat walk_at "h"
  refine ⟨by omega, trivial, rfl, by rw [List.length_range]; omega, fun i _ => ?_, ?_⟩
  · repeat walk_at "h"
    exact ⟨PreM.rf _, rfl⟩
  rw [upto_is]
  repeat walk_at "h"
  refine ⟨0, _, (upto n).map .int, rfl, rfl, .cons rfl .nil, by rw [List.length_map, len_upto]; omega, ?_⟩
  rintro _ ⟨es, pm, rfl⟩
  obtain ⟨os, po, rfl⟩ := perm_of_map pm rfl
  refine rp_n ?_
  refine ⟨PreM.app _ [_, _], _, ⟨(show 1 ≤ 2 by decide), _, rfl, rfl⟩, ?_⟩
  have hol : os.length = n.toNat := by rw [po.length_eq, len_upto]
  have hom : ∀ x ∈ os, x ∈ upto n := fun x hx => po.mem_iff.1 hx
  have oat : ∀ k : Int, 0 ≤ k → k < n → ∃ v ∈ upto n, atI (os.map PyData.int) k = some (.int v) := fun k k0 k1 => by
    have hlt : k.toNat < os.length := by omega
    exact ⟨os[k.toNat], hom _ (List.getElem_mem hlt), at_int k0 (by rw [List.getElem?_map, List.getElem?_eq_getElem hlt] <;> rfl)⟩
  repeat walk_at "h"
  refine ⟨[], rfl, Nat.zero_le _, ?_⟩
  repeat walk_at "h"
  refine ⟨0, _, 3, rfl, rfl, .cons rfl .nil, ⟨by decide, by decide⟩, ?_⟩
  rintro _ ⟨kd, k0, k1, rfl⟩
  refine rp_d ?_
  repeat walk_at "h"
  refine gs_for [5] ?_
  repeat walk_at "h"
  refine ⟨by omega, ?_⟩
  refine ⟨fun i Γ M => ∃ (rs : List Road) (o5 o6 : Option D), Γ = [some (.ref 0), some (.dat (.int n)), some (.dat (.list (os.map .int))), some (.ref 1), some (.dat (.int kd)), o5, o6, none] ∧ M = [.src, .lst (rs.map prP)] ∧ rs.length = i ∧ ∀ r ∈ rs, r.1 ∈ upto n ∧ r.2 ∈ upto n, ⟨[], none, none, rfl, rfl, rfl, fun r hr => by cases hr⟩, fun _ _ _ _ => trivial, ?_, ?_⟩
  · rintro i d Γ M hd ⟨rs, o5, o6, rfl, rfl, hl, he⟩
    obtain ⟨hi, rfl⟩ := rng_get hd
    repeat walk_at "t"
    obtain ⟨u, hu, au⟩ := oat (1 + (i : Int)) (by omega) (by omega)
    have hu' := mem_upto.1 hu
    with_reducible refine gs_seq ?_
    with_reducible refine gs_set ?_
    refine GE.mono (P := fun d M' => M' = [.src, .lst (rs.map prP)] ∧ ∃ v : Int, v ∈ upto n ∧ d = .dat (.int v)) ?_ ?_
    · repeat walk_at "h"
      refine ⟨fun _ => ?_, fun _ => ?_⟩
      · obtain ⟨v, hv, av⟩ := oat (1 + (i : Int) - 1) (by omega) (by omega)
        repeat walk_at "h"
        exact ⟨_, ov_ixL rfl av, rfl, v, hv, rfl⟩
      · repeat walk_at "h"
        refine ⟨0, _, 1 + (i : Int), rfl, rfl, .cons rfl .nil, ⟨by omega, by omega⟩, ?_⟩
        rintro _ ⟨y, y0, y1, rfl⟩
        have y1 : y < 1 + (i : Int) := y1
        refine rp_d ?_
        obtain ⟨v, hv, av⟩ := oat y y0 (by omega)
        exact ⟨_, ov_ixL rfl av, rfl, v, hv, rfl⟩
    rintro _ _ ⟨rfl, v, hv, rfl⟩
    repeat walk_at "h"
    refine ⟨_, ov_ixL rfl au, ?_⟩
    repeat walk_at "h"
    refine cg_int2 (f := fun i j => if j < i then j else i) rfl ?_
    repeat walk_at "h"
    refine ⟨_, ov_ixL rfl au, ?_⟩
    repeat walk_at "h"
    refine cg_int2 (f := fun i j => if j > i then j else i) rfl ?_
    repeat walk_at "h"
    refine ⟨by rw [List.length_map]; omega, ?_⟩
    refine ⟨rs ++ [(if v < u then v else u, if v > u then v else u)], _, _, rfl, ?_, ?_, fun r hr => ?_⟩
    · show [_, MO.lst (rs.map prP ++ [.tuple _])] = _
      rw [List.map_append] <;> rfl
    · rw [List.length_append, hl] <;> rfl
    · rcases List.mem_append.1 hr with hr | hr
      · exact he r hr
      · rw [List.mem_singleton.1 hr]
        constructor
        · show (if v < u then v else u) ∈ upto n
          split
          · exact hv
          · exact hu
        · show (if v > u then v else u) ∈ upto n
          split
          · exact hv
          · exact hu
  · rintro Γ M ⟨rs, o5, o6, rfl, rfl, hl, he⟩
    repeat walk_at "h"
    refine cg_sortedP (rs := rs) rfl fun ms pm => ?_
    obtain ⟨rs', pr, rfl⟩ := perm_of_map pm rfl
    refine rt_nS rfl ⟨rs', rfl, ?_, fun r hr => he r (pr.mem_iff.1 hr)⟩ rfl
    rw [pr.length_eq, hl]
    unfold rngD
    rw [List.length_map, List.length_range]
    omega
end
end K99

namespace K99
open PySem PySem.Spec PyProof.Rows L2 GL Gr
local macro_rules | `(tactic| walk_at "g") => `(tactic| first
  | (with_reducible refine gs_seq ?_)
  | (with_reducible refine gs_set ?_)
  | (with_reducible refine gs_ret ?_)
  | (with_reducible refine gs_if ?_)
  | (with_reducible refine gs_drop ?_)
  | (with_reducible refine gs_next ?_)
  | ((with_reducible refine ge_var (d := ?dv) ?hv ?pv); (case hv => exact rfl))
  | (with_reducible refine ge_int ?_)
  | (with_reducible refine ge_bl ?_)
  | (with_reducible refine ge_str ?_)
  | (with_reducible refine ge_non ?_)
  | (with_reducible refine ge_cat ?_)
  | (with_reducible refine ge_ov ?_)
  | (with_reducible refine og_ov ?_)
  | (with_reducible refine ge_chain3 ?_)
  | (with_reducible refine ge_listRg1 ?_)
  | (with_reducible refine ge_isi ?_)
  | (with_reducible refine ge_isi2 ?_)
  | (with_reducible refine ge_cb ?_)
  | (with_reducible refine ga_nil ?_)
  | (with_reducible refine ga_cons ?_)
  | (with_reducible refine ge_andV ?_)
  | (with_reducible refine ge_orV ?_)
  | (with_reducible refine ge_notV ?_)
  | (with_reducible refine ge_isN ?_)
  | (with_reducible refine ge_notN ?_)
  | (with_reducible refine ge_if ?_)
  | (with_reducible refine ge_tup ?_)
  | (with_reducible refine ge_lst ?_)
  | (with_reducible refine ge_slL ?_)
  | (with_reducible refine ge_slT ?_)
  | (with_reducible refine go_none ?_)
  | (with_reducible refine go_some ?_)
  | (with_reducible refine gt_test ?_)
  | (with_reducible refine gt_B ?_)
  | (with_reducible refine gt_and ?_)
  | (with_reducible refine gt_or ?_)
  | (with_reducible refine gt_not ?_)
  | (with_reducible refine gi_list ?_)
  | (with_reducible refine gi_tup ?_)
  | (with_reducible refine gi_rng1 ?_)
  | (with_reducible refine gi_rng2 ?_)
  | (with_reducible refine gi_rng3 ?_)
  | (with_reducible refine gi_enum ?_)
  | (with_reducible refine gi_zipT ?_)
  | (with_reducible refine gs_asg _ ?_)
  | (with_reducible refine gg_name (by decide) ?_)
  | ((with_reducible refine gg_tup ?hn ?hg); (case hn => exact rfl))
  | (with_reducible refine ggs_cons ?_)
  | (with_reducible refine ggs_nil ?_)
  | (with_reducible refine ge_append ?_)
  | (with_reducible refine ge_popAt ?_)
  | (with_reducible refine ge_dget ?_)
  | (with_reducible refine ge_din ?_)
  | (with_reducible refine ge_dnotin ?_)
  | (with_reducible refine gs_dput ?_)
  | (with_reducible refine ge_call ?_)
  | (with_reducible refine ge_callS ?_)
  | (refine ⟨_, ov_I0i, ?_⟩)
  | (refine ⟨_, ov_I0b, ?_⟩)
  | (refine ⟨_, ov_isin rfl, ?_⟩)
  | (refine ⟨_, ov_notin rfl, ?_⟩)
  | (refine ⟨_, ov_eq rfl, ?_⟩)
  | (refine ⟨_, ov_ne rfl, ?_⟩)
  | (refine cg_len (.inl rfl) ?_)
  | (refine cg_len (.inr rfl) ?_)
  | (refine ⟨_, ov_ixT rfl rfl, ?_⟩)
  | (refine ⟨_, ov_ixL rfl rfl, ?_⟩)
  | (refine ⟨_, ov_ixT rfl (atI_nat (j := 0) rfl), ?_⟩)
  | (refine ⟨_, ov_ixL rfl (atI_nat (j := 0) rfl), ?_⟩)
  | (refine ⟨_, ov_ixT rfl (atI_nat (j := 1) rfl), ?_⟩)
  | (refine ⟨_, ov_ixL rfl (atI_nat (j := 1) rfl), ?_⟩)
  | (refine ⟨_, ov_ixT rfl (atI_nat (j := 2) rfl), ?_⟩)
  | (refine ⟨_, ov_ixL rfl (atI_nat (j := 2) rfl), ?_⟩)
  | (refine ⟨_, ov_ixT rfl (atI_nat (j := 3) rfl), ?_⟩)
  | (refine ⟨_, ov_ixL rfl (atI_nat (j := 3) rfl), ?_⟩)
  | (refine ⟨_, _, rfl, kit_int _, ?_⟩)
  | (refine ⟨_, _, rfl, kit_bool _, ?_⟩)
  | (refine ⟨_, _, rfl, kit_str _, ?_⟩)
  | (refine ⟨_, _, rfl, kit_tuple _, ?_⟩)
  | (refine ⟨_, _, rfl, kit_list _, ?_⟩)
  | (refine ⟨_, _, rfl, kit_dict _, ?_⟩)
  | (refine ⟨_, _, rfl, kit_lt _, ?_⟩)
  | (refine ⟨_, rfl, ?_⟩))
local macro_rules | `(tactic| walk_at "t") => `(tactic| first
  | (with_reducible refine gg_name (by decide) ?_)
  | ((with_reducible refine gg_tup ?hn ?hg); (case hn => exact rfl))
  | (with_reducible refine ggs_cons ?_)
  | (with_reducible refine ggs_nil ?_))

local macro_rules | `(tactic| walk_at "h") => `(tactic| first
  | (with_reducible refine ge_kdict ?_)
  | walk_at "g"
  | (with_reducible refine gs_setS ?_)
  | (refine ⟨_, ov_ixS rfl rfl, ?_⟩)
  | (refine ⟨_, ov_Ii (C := CMul) (.inr ⟨by decide, by decide⟩), ?_⟩)
  | (refine ⟨_, ov_Ii (C := fun _ j => j ≠ 0) (by decide), ?_⟩)
  | (refine ⟨_, ov_Ii (C := CDivN) ⟨by decide, by decide⟩, ?_⟩)
  | (refine ⟨_, ov_Ii (C := CPow) ⟨by decide, by decide, by decide⟩, ?_⟩)
  | (refine ⟨[_], rfl, (show 1 ≤ 100000 by decide /-tup2-/), ?_⟩)
  | (refine ⟨[_, _], rfl, (show 2 ≤ 100000 by decide), ?_⟩)
  | (refine ⟨[_, _, _], rfl, (show 3 ≤ 100000 by decide), ?_⟩)
  | (refine ⟨[_, _, _, _], rfl, (show 4 ≤ 100000 by decide), ?_⟩)
  | (refine ⟨_, _, rfl, rfl, ?_⟩)
  | (refine ⟨_, _, rfl, ?_⟩))
local macro_rules | `(tactic| walk_at "s") => `(tactic| first
  | (with_reducible refine gs_retS 0 ?_)
  | walk_at "h")

theorem eqv_pr (s r : Road) : PyData.eqv (prP s) (prP r) = decide (s = r) := by
  obtain ⟨a, b⟩ := s
  obtain ⟨c, d⟩ := r
  rw [Bool.eq_iff_iff]
  simp [PyData.eqv, PyData.eqvAll]
section
variable {P : Program} {w : World} {K : PySem.W.Frag} {mg : Str → Option Value} {base : Heap}
abbrev s__law_e_none_due : Stmt := topS 29
theorem sc__law_e_none_due : FnScope ["houses", "sets", "verdict", "roads", "weight", "asked", "a", "b", "road", "rest", "members", "one"] ["houses", "sets", "verdict"] (defScope s__law_e_none_due) := ⟨rfl, rfl, rfl, by decide +kernel, rfl, by decide +kernel, by decide +kernel⟩
theorem cal__law_e_none_due (D : DefF K mg "_law_e_none_due" s__law_e_none_due ["houses", "sets", "verdict"]) (T : Txt mg) (C1 : Cal P w K mg base CX0 1 "_law_e_weight" ["sets", "a", "b"] spWeight) (C2 : Cal P w K mg base CX0 1 "_law_reach" ["roads", "start"] spReach) :
    Cal P w K mg base CX0 2 "_law_e_none_due" ["houses", "sets", "verdict"] spNone := by
  obtain ⟨f, fd, F, g, b⟩ := D
  obtain ⟨_, _, G__law_e_weight, g__law_e_weight, kp__law_e_weight, b__law_e_weight⟩ := C1
  obtain ⟨_, _, G__law_reach, g__law_reach, kp__law_reach, b__law_reach⟩ := C2
  refine ⟨f, fd, F.ok sc__law_e_none_due (gsp_len (n := 3) fun _ => rfl) (fun cdv A outer s H vs Q E hr h => ?_), g, F.kp, b⟩
  refine ⟨_, (pss_cons (ps_set (i := 3) sc__law_e_none_due.nd rfl (Or.inl rfl) (pe_callTy (k_list (K := K) rfl) (by rfl) T.list_ (by decide +kernel) (pa_cons (pe_ix (k_ixT (K := K) rfl) (pv 2) pe_int (fun _ _ => rfl)) pa_nil))) (pss_cons (ps_set (i := 4) sc__law_e_none_due.nd rfl (Or.inl rfl) (pe_callB (k_sum (K := K) rfl rfl) (by rfl) T.sum_ (by decide +kernel) (pa_cons (pe_lc (own := [("a", 6), ("b", 7)]) (by rfl) sc__law_e_none_due.nd (k_pil (K := K) rfl (pv 3)) (blkOk_by (own := [("a", 6), ("b", 7)]) (N := ["houses", "sets", "verdict", "roads", "weight", "asked", "a", "b", "road", "rest", "members", "one"]) (sc := defScope s__law_e_none_due) (by decide +kernel)) (fun _ _ _ _ _ => (k_pgt (K := K) (n := 2) rfl (by rfl) (pgs_cons (pg_name (i := 6) sc__law_e_none_due.nd rfl (Or.inl rfl)) (pgs_cons (pg_name (i := 7) sc__law_e_none_due.nd rfl (Or.inl rfl)) pgs_nil)) (by rfl) (by rfl))) (fun _ _ _ _ _ => pts_nil) (fun _ _ _ _ _ => (pe_call G__law_e_weight (hr.mono (by decide)) (by rfl) g__law_e_weight kp__law_e_weight b__law_e_weight .nil pass0 (pa_cons (pv 1) (pa_cons (pv 6) (pa_cons (pv 7) pa_nil)))))) pa_nil))) (pss_cons (ps_set (i := 5) sc__law_e_none_due.nd rfl (Or.inl rfl) (pe_callB (k_sum (K := K) rfl rfl) (by rfl) T.sum_ (by decide +kernel) (pa_cons (pe_lc (own := [("members", 10)]) (by rfl) sc__law_e_none_due.nd (k_pil (K := K) rfl (pv 1)) (blkOk_by (own := [("members", 10)]) (N := ["houses", "sets", "verdict", "roads", "weight", "asked", "a", "b", "road", "rest", "members", "one"]) (sc := defScope s__law_e_none_due) (by decide +kernel)) (fun _ _ _ _ _ => (pg_name (i := 10) sc__law_e_none_due.nd rfl (Or.inl rfl))) (fun _ _ _ _ _ => pts_nil) (fun _ _ _ _ _ => (pe_op op_sub (pe_callB (k_len (K := K) rfl) (by rfl) T.len_ (by decide +kernel) (pa_cons (pv 10) pa_nil)) pe_int))) pa_nil))) (pss_cons (ps_if (PW.pt (pw_or (pt_cmpR op_ne (pe_ix (k_ixT (K := K) rfl) (pv 2) pe_int (fun _ _ => rfl)) (pv 4) (nomark _)) (pw_or1 (pt_cmpR op_ne (pe_ix (k_ixT (K := K) rfl) (pv 2) pe_int (fun _ _ => rfl)) (pv 5) (nomark _))))) (pss_one (ps_ret (pe_tup (pa_cons pe_str (pa_cons (pe_ifExp (pt_cmpR op_ne (pe_ix (k_ixT (K := K) rfl) (pv 2) pe_int (fun _ _ => rfl)) (pv 4) (nomark _)) pe_int pe_int) pa_nil))))) pss_nil) (pss_cons (ps_for PassesOwn.never rfl (pi_range2 (by rfl) T.range_ (pa_cons pe_int (pa_cons (pe_op op_add (pv 0) pe_int) pa_nil))) (pg_name (i := 6) sc__law_e_none_due.nd rfl (Or.inl rfl)) (pss_one (ps_for PassesOwn.never rfl (pi_range2 (by rfl) T.range_ (pa_cons (pe_op op_add (pv 6) pe_int) (pa_cons (pe_op op_add (pv 0) pe_int) pa_nil))) (pg_name (i := 7) sc__law_e_none_due.nd rfl (Or.inl rfl)) (pss_one (ps_for PassesOwn.never rfl (k_pil (K := K) rfl (pv 3)) (pg_name (i := 8) sc__law_e_none_due.nd rfl (Or.inr rfl)) (pss_cons (ps_setLc (i := 9) (own := [("one", 11)]) (by rfl) sc__law_e_none_due.nd rfl rfl (sw_true rfl rfl rfl (by decide +kernel)) (k_pil (K := K) rfl (pv 3)) (blkOk_by (own := [("one", 11)]) (N := ["houses", "sets", "verdict", "roads", "weight", "asked", "a", "b", "road", "rest", "members", "one"]) (sc := defScope s__law_e_none_due) (by decide +kernel)) (fun _ _ _ _ _ => (pg_name (i := 11) sc__law_e_none_due.nd rfl (Or.inl rfl))) (fun _ _ _ _ _ => (pts_one (pt_cmpR (k_neD (K := K) rfl hr.units) (pv 11) (pv 8) (nomark _)))) (fun _ _ _ _ _ => (pv 11))) (pss_one (ps_if (PW.pt (pw_and (pt_cmpR (k_notin (K := K) rfl) (pv 7) (pe_call G__law_reach (hr.mono (by decide)) (by rfl) g__law_reach kp__law_reach b__law_reach .nil pass0 (pa_cons (pv 9) (pa_cons (pv 6) pa_nil))) rfl) (pw_and1 (pt_cmpR op_gt (pe_call G__law_e_weight (hr.mono (by decide)) (by rfl) g__law_e_weight kp__law_e_weight b__law_e_weight .nil pass0 (pa_cons (pv 1) (pa_cons (pv 6) (pa_cons (pv 7) pa_nil)))) (pe_call G__law_e_weight (hr.mono (by decide)) (by rfl) g__law_e_weight kp__law_e_weight b__law_e_weight .nil pass0 (pa_cons (pv 1) (pa_cons (pe_ix (k_ixT (K := K) rfl) (pv 8) pe_int (fun _ _ => rfl)) (pa_cons (pe_ix (k_ixT (K := K) rfl) (pv 8) pe_int (fun _ _ => rfl)) pa_nil)))) (nomark _))))) (pss_one (ps_ret (pe_tup (pa_cons pe_str (pa_cons (pv 6) (pa_cons (pv 7) pa_nil)))))) pss_nil)))))))) (pss_one (ps_ret (pe_ifExp (pt_cmpR op_ge (pv 4) (pv 5) (nomark _)) (pe_tup (pa_cons pe_str pa_nil)) pe_non)))))))), ?_⟩
  refine gsp_body (n := 3) (m := 9) (fun _ => rfl) rfl (fun x hx => ?_) vs H Q E h
  obtain ⟨h, ss, rs, rd, u, v⟩ := x
  dsimp only at hx ⊢
  obtain ⟨t, ⟨h1, h2⟩, hs, hrd⟩ := hx
  have hl := t.short h1
  with_reducible refine gs_seq ?_
  with_reducible refine gs_set ?_
  with_reducible refine ge_fz ?_
  repeat walk_at "h"
  refine cg_list (ds := rs.map prP) ?_ ?_
  · rcases rowsOf_some hrd with rfl | rfl
    · exact .inl rfl
    · exact .inr rfl
  refine fz_new ?_
  with_reducible refine gs_seq ?_
  with_reducible refine gs_set ?_
  with_reducible refine ge_fz ?_
  repeat walk_at "h"
  with_reducible refine ge_lcMap rs prP (fun r => PyData.int (wt ss r.1 r.2)) ?_
  repeat walk_at "h"
  refine ⟨rfl, rfl, by omega, fun r _ => ?_, ?_⟩
  · repeat walk_at "h"
    refine ⟨(ss, r.1, r.2), .cons rfl (.cons rfl (.cons rfl .nil)), hs, ?_⟩
    rintro _ rfl
    exact ⟨PreM.rf _, rfl⟩
  repeat walk_at "h"
  refine cg_sum (ns := rs.map fun r => wt ss r.1 r.2) (by rw [List.map_map] <;> rfl) ?_
  refine ⟨PreM.app _ _, _, rfl, ?_⟩
  with_reducible refine gs_seq ?_
  with_reducible refine gs_set ?_
  with_reducible refine ge_fz ?_
  repeat walk_at "h"
  with_reducible refine ge_lcMap ss dI (fun m => PyData.int ((m.length : Int) - 1)) ?_
  repeat walk_at "h"
  refine ⟨rfl, rfl, by omega, fun m _ => ?_, ?_⟩
  · repeat walk_at "h"
    exact ⟨PreM.rf _, by rw [List.length_map] <;> rfl⟩
  repeat walk_at "h"
  refine cg_sum (ns := ss.map fun m => (m.length : Int) - 1) (by rw [List.map_map] <;> rfl) ?_
  refine ⟨PreM.app _ _, _, rfl, ?_⟩
  show GS _ _ _ _
  generalize ew : (rs.map fun r => wt ss r.1 r.2).sum = W
  generalize eq : (ss.map fun m => (m.length : Int) - 1).sum = A
  have ew : W = wsum ss rs := ew.symm
  have eq : A = asum ss := eq.symm
  subst ew; subst eq
  with_reducible refine gs_seq ?_
  refine gs_ifB (fun b => b = false ↔ (u = wsum ss rs ∧ v = asum ss)) ?_ ?_ ?_
  · repeat walk_at "h"
    refine ⟨fun z => ⟨rfl, fun y => (by cases y), fun y => ?_⟩, fun z => ?_⟩
    · rw [decide_eq_true y.1] at z; cases z
    · have z : u = wsum ss rs := by simpa using z
      repeat walk_at "h"
      refine ⟨rfl, ?_⟩
      simp [z]
  · intro hb
    repeat walk_at "h"
    refine ⟨fun z => ?_, fun z => ?_⟩
    · repeat walk_at "h"
      have z : u ≠ wsum ss rs := by simpa using z
      exact rt_d ⟨_, .inl ⟨z, rfl⟩, rfl⟩
    · repeat walk_at "h"
      have z : u = wsum ss rs := by simpa using z
      exact rt_d ⟨_, .inr (.inl ⟨z, fun y => (by cases hb.2 ⟨z, y⟩), rfl⟩), rfl⟩
  intro hb
  obtain ⟨z1, z2⟩ := hb.1 rfl
  repeat walk_at "h"
  refine gs_for [6] ?_
  repeat walk_at "h"
  refine ⟨by omega, ?_⟩
  have nf : ∀ d, LF h ss rs d → (d ≠ .none) → ∃ e, NF h ss rs u v e ∧ Rs.dat d = Rs.dat e := fun d hd hn => ⟨d, .inr (.inr ⟨z1, z2, _, hd, .inl ⟨hn, rfl⟩⟩), rfl⟩
  refine ⟨fun i Γ M => ∃ o6 o7 o8 o9 o10 o11, Γ = [some (.dat (.int h)), some (.ref 0), some (.dat (.tuple [.str "none", rd, .int u, .int v])), some (.dat (.list (rs.map prP))), some (.dat (.int (wsum ss rs))), some (.dat (.int (asum ss))), o6, o7, o8, o9, o10, o11] ∧ M = [.bor (ss.map dI)] ∧
      ∀ a b, 1 ≤ a → a < 1 + (i : Int) → a < b → b ≤ h → ¬ Lighter ss rs a b, ⟨_, _, _, _, _, _, rfl, rfl, fun a b k1 k2 => by omega⟩, fun _ _ _ _ => trivial, ?_, ?_⟩
  · rintro i d Γ M hd ⟨o6, o7, o8, o9, o10, o11, rfl, rfl, c⟩
    obtain ⟨hi, rfl⟩ := rng_get hd
    have hia : (1 : Int) + i ≤ h := by omega
    repeat walk_at "t"
    generalize ea : (1 : Int) + i = a at hia ⊢
    refine gs_for [7] ?_
    repeat walk_at "h"
    refine ⟨by omega, ?_⟩
    refine ⟨fun j Γ M => ∃ o7 o8 o9 o10 o11, Γ = [some (.dat (.int h)), some (.ref 0), some (.dat (.tuple [.str "none", rd, .int u, .int v])), some (.dat (.list (rs.map prP))), some (.dat (.int (wsum ss rs))), some (.dat (.int (asum ss))), some (.dat (.int a)), o7, o8, o9, o10, o11] ∧ M = [.bor (ss.map dI)] ∧
      ∀ b, a < b → b < a + 1 + (j : Int) → ¬ Lighter ss rs a b, ⟨_, _, _, _, _, rfl, rfl, fun b k1 k2 => by omega⟩, fun _ _ _ _ => trivial, ?_, ?_⟩
    · rintro j d Γ M hd ⟨o7, o8, o9, o10, o11, rfl, rfl, c2⟩
      obtain ⟨hj, rfl⟩ := rng_get hd
      have hjb : a + 1 + (j : Int) ≤ h := by omega
      repeat walk_at "t"
      generalize eb : a + 1 + (j : Int) = b at hjb ⊢
      refine gs_for [8] ?_
      repeat walk_at "h"
      refine ⟨fun k Γ M => ∃ o8 o9 o10 o11, Γ = [some (.dat (.int h)), some (.ref 0), some (.dat (.tuple [.str "none", rd, .int u, .int v])), some (.dat (.list (rs.map prP))), some (.dat (.int (wsum ss rs))), some (.dat (.int (asum ss))), some (.dat (.int a)), some (.dat (.int b)), o8, o9, o10, o11] ∧ M = [.bor (ss.map dI)] ∧
        ∀ (q : Nat) r, q < k → rs[q]? = some r → ¬ (¬ Conn (less rs r) a b ∧ wt ss r.1 r.2 < wt ss a b), ⟨_, _, _, _, rfl, rfl, fun q r z => absurd z (Nat.not_lt_zero q)⟩, fun _ _ _ _ => rfl, ?_, ?_⟩
      · rintro k d Γ M hd ⟨o8, o9, o10, o11, rfl, rfl, c3⟩
        obtain ⟨r, hr', rfl⟩ := mp_at hd
        repeat walk_at "t"
        refine gs_let [9, 10, 11] ?_
        with_reducible refine gs_seq ?_
        with_reducible refine gs_set ?_
        with_reducible refine ge_fz ?_
        with_reducible refine ge_lcFilt rs prP (fun s => decide (s ≠ r)) prP ?_
        repeat walk_at "h"
        refine ⟨rfl, rfl, by omega, fun s _ => ?_, fz_new ?_⟩
        · repeat walk_at "h"
          refine ⟨_, ov_neD rfl rfl, ?_⟩
          rw [eqv_pr]
          refine ⟨_, rfl, ?_, PreM.rf _, fun _ => ?_⟩
          · by_cases e : s = r
            · rw [decide_eq_true e, decide_eq_false (fun z => z e)] <;> rfl
            · rw [decide_eq_false e, decide_eq_true e] <;> rfl
          · repeat walk_at "h"
            exact ⟨PreM.rf _, rfl⟩
        have elr : (rs.filter fun s => decide (s ≠ r)) = less rs r := rfl
        rw [elr]
        have hll : (less rs r).length ≤ 40 := by
          have := List.length_filter_le (fun s => decide (s ≠ r)) rs
          unfold less
          omega
        have out : ¬ (¬ Conn (less rs r) a b ∧ wt ss r.1 r.2 < wt ss a b) → ∀ (q : Nat) r', q < k + 1 → rs[q]? = some r' → ¬ (¬ Conn (less rs r') a b ∧ wt ss r'.1 r'.2 < wt ss a b) := fun no q r' hq hr2 => by
          by_cases e : q = k
          · subst e; rw [hr'] at hr2; cases hr2; exact no
          · exact c3 q r' (by omega) hr2
        repeat walk_at "h"
        refine ⟨(less rs r, a), .cons rfl (.cons rfl .nil), hll, ?_⟩
        rintro _ ⟨ms, rfl, _, mc⟩
        refine rp_n ?_
        repeat walk_at "h"
        refine ⟨fun y1 => ?_, fun y1 => ?_⟩
        · have y1 : ¬ Conn (less rs r) a b := fun z => by
            rw [decide_eq_true ((mc b).2 z)] at y1
            cases y1
          repeat walk_at "h"
          refine ⟨(ss, a, b), .cons rfl (.cons rfl (.cons rfl .nil)), hs, ?_⟩
          rintro _ rfl
          refine rp_d ?_
          repeat walk_at "h"
          refine ⟨(ss, r.1, r.2), .cons rfl (.cons rfl (.cons rfl .nil)), hs, ?_⟩
          rintro _ rfl
          refine rp_d ?_
          repeat walk_at "h"
          refine ⟨fun y2 => ?_, fun y2 => ?_⟩
          · have y2 := of_decide_eq_true y2
            repeat walk_at "h"
            refine rt_d (nf (dRoad a b) (.inr ⟨a, b, by omega, by omega, by omega, ⟨r, List.mem_of_getElem? hr', y1, y2⟩, rfl, ?_⟩) (fun z => by cases z))
            rintro a' b' k1 k2 k3 (k4 | ⟨rfl, k4⟩)
            · exact c a' b' k1 (by omega) k2 k3
            · exact c2 b' k2 (by omega)
          · have y2 := of_decide_eq_false y2
            repeat walk_at "h"
            exact ⟨Nat.le_refl _, _, _, _, _, rfl, rfl, out fun z => y2 z.2⟩
        · have y1 : Conn (less rs r) a b := (mc b).1 (by simpa using y1)
          refine ⟨fun z => (by cases z), fun _ => ?_⟩
          repeat walk_at "h"
          exact ⟨Nat.le_refl _, _, _, _, _, rfl, rfl, out fun z => z.1 y1⟩
      · rintro Γ M ⟨o8, o9, o10, o11, rfl, rfl, c3⟩
        refine ⟨_, _, _, _, _, rfl, rfl, fun b' k1 k2 => ?_⟩
        by_cases e : b' = b
        · subst e
          rintro ⟨r, hr', y⟩
          obtain ⟨q, hq, eq⟩ := List.mem_iff_getElem.1 hr'
          exact c3 q r (by rw [List.length_map]; exact hq) (by rw [List.getElem?_eq_getElem hq, eq]) y
        · exact c2 b' k1 (by omega)
    · rintro Γ M ⟨o7, o8, o9, o10, o11, rfl, rfl, c2⟩
      refine ⟨_, _, _, _, _, _, rfl, rfl, fun a' b' k1 k2 k3 k4 => ?_⟩
      by_cases e : a' = a
      · subst e
        refine c2 b' k3 ?_
        unfold rngD
        rw [List.length_map, List.length_range]
        omega
      · exact c a' b' k1 (by omega) k3 k4
  · rintro Γ M ⟨o6, o7, o8, o9, o10, o11, rfl, rfl, c⟩
    have hd : LF h ss rs .none := .inl ⟨rfl, fun a b k1 k2 k3 => c a b k1 (by
      unfold rngD
      rw [List.length_map, List.length_range]
      omega) k2 k3⟩
    repeat walk_at "h"
    refine ⟨fun z => ?_, fun z => ?_⟩
    · have z := of_decide_eq_true z
      repeat walk_at "h"
      exact rt_d ⟨_, .inr (.inr ⟨z1, z2, _, hd, .inr ⟨rfl, .inr ⟨by omega, rfl⟩⟩⟩), rfl⟩
    · have z := of_decide_eq_false z
      repeat walk_at "h"
      exact rt_d ⟨_, .inr (.inr ⟨z1, z2, _, hd, .inr ⟨rfl, .inl ⟨by omega, rfl⟩⟩⟩), rfl⟩
end
end K99

namespace K99
open PySem PySem.Spec PyProof.Rows L2 GL Gr
local macro_rules | `(tactic| walk_at "g") => `(tactic| first
  | (with_reducible refine gs_seq ?_)
  | (with_reducible refine gs_set ?_)
  | (with_reducible refine gs_ret ?_)
  | (with_reducible refine gs_if ?_)
  | (with_reducible refine gs_drop ?_)
  | (with_reducible refine gs_next ?_)
  | ((with_reducible refine ge_var (d := ?dv) ?hv ?pv); (case hv => exact rfl))
  | (with_reducible refine ge_int ?_)
  | (with_reducible refine ge_bl ?_)
  | (with_reducible refine ge_str ?_)
  | (with_reducible refine ge_non ?_)
  | (with_reducible refine ge_cat ?_)
  | (with_reducible refine ge_ov ?_)
  | (with_reducible refine og_ov ?_)
  | (with_reducible refine ge_chain3 ?_)
  | (with_reducible refine ge_listRg1 ?_)
  | (with_reducible refine ge_isi ?_)
  | (with_reducible refine ge_isi2 ?_)
  | (with_reducible refine ge_cb ?_)
  | (with_reducible refine ga_nil ?_)
  | (with_reducible refine ga_cons ?_)
  | (with_reducible refine ge_andV ?_)
  | (with_reducible refine ge_orV ?_)
  | (with_reducible refine ge_notV ?_)
  | (with_reducible refine ge_isN ?_)
  | (with_reducible refine ge_notN ?_)
  | (with_reducible refine ge_if ?_)
  | (with_reducible refine ge_tup ?_)
  | (with_reducible refine ge_lst ?_)
  | (with_reducible refine ge_slL ?_)
  | (with_reducible refine ge_slT ?_)
  | (with_reducible refine go_none ?_)
  | (with_reducible refine go_some ?_)
  | (with_reducible refine gt_test ?_)
  | (with_reducible refine gt_B ?_)
  | (with_reducible refine gt_and ?_)
  | (with_reducible refine gt_or ?_)
  | (with_reducible refine gt_not ?_)
  | (with_reducible refine gi_list ?_)
  | (with_reducible refine gi_tup ?_)
  | (with_reducible refine gi_rng1 ?_)
  | (with_reducible refine gi_rng2 ?_)
  | (with_reducible refine gi_rng3 ?_)
  | (with_reducible refine gi_enum ?_)
  | (with_reducible refine gi_zipT ?_)
  | (with_reducible refine gs_asg _ ?_)
  | (with_reducible refine gg_name (by decide) ?_)
  | ((with_reducible refine gg_tup ?hn ?hg); (case hn => exact rfl))
  | (with_reducible refine ggs_cons ?_)
  | (with_reducible refine ggs_nil ?_)
  | (with_reducible refine ge_append ?_)
  | (with_reducible refine ge_popAt ?_)
  | (with_reducible refine ge_dget ?_)
  | (with_reducible refine ge_din ?_)
  | (with_reducible refine ge_dnotin ?_)
  | (with_reducible refine gs_dput ?_)
  | (with_reducible refine ge_call ?_)
  | (with_reducible refine ge_callS ?_)
  | (refine ⟨_, ov_I0i, ?_⟩)
  | (refine ⟨_, ov_I0b, ?_⟩)
  | (refine ⟨_, ov_isin rfl, ?_⟩)
  | (refine ⟨_, ov_notin rfl, ?_⟩)
  | (refine ⟨_, ov_eq rfl, ?_⟩)
  | (refine ⟨_, ov_ne rfl, ?_⟩)
  | (refine cg_len (.inl rfl) ?_)
  | (refine cg_len (.inr rfl) ?_)
  | (refine ⟨_, ov_ixT rfl rfl, ?_⟩)
  | (refine ⟨_, ov_ixL rfl rfl, ?_⟩)
  | (refine ⟨_, ov_ixT rfl (atI_nat (j := 0) rfl), ?_⟩)
  | (refine ⟨_, ov_ixL rfl (atI_nat (j := 0) rfl), ?_⟩)
  | (refine ⟨_, ov_ixT rfl (atI_nat (j := 1) rfl), ?_⟩)
  | (refine ⟨_, ov_ixL rfl (atI_nat (j := 1) rfl), ?_⟩)
  | (refine ⟨_, ov_ixT rfl (atI_nat (j := 2) rfl), ?_⟩)
  | (refine ⟨_, ov_ixL rfl (atI_nat (j := 2) rfl), ?_⟩)
  | (refine ⟨_, ov_ixT rfl (atI_nat (j := 3) rfl), ?_⟩)
  | (refine ⟨_, ov_ixL rfl (atI_nat (j := 3) rfl), ?_⟩)
  | (refine ⟨_, _, rfl, kit_int _, ?_⟩)
  | (refine ⟨_, _, rfl, kit_bool _, ?_⟩)
  | (refine ⟨_, _, rfl, kit_str _, ?_⟩)
  | (refine ⟨_, _, rfl, kit_tuple _, ?_⟩)
  | (refine ⟨_, _, rfl, kit_list _, ?_⟩)
  | (refine ⟨_, _, rfl, kit_dict _, ?_⟩)
  | (refine ⟨_, _, rfl, kit_lt _, ?_⟩)
  | (refine ⟨_, rfl, ?_⟩))
local macro_rules | `(tactic| walk_at "t") => `(tactic| first
  | (with_reducible refine gg_name (by decide) ?_)
  | ((with_reducible refine gg_tup ?hn ?hg); (case hn => exact rfl))
  | (with_reducible refine ggs_cons ?_)
  | (with_reducible refine ggs_nil ?_))

local macro_rules | `(tactic| walk_at "h") => `(tactic| first
  | (with_reducible refine ge_kdict ?_)
  | walk_at "g"
  | (with_reducible refine gs_setS ?_)
  | (refine ⟨_, ov_ixS rfl rfl, ?_⟩)
  | (refine ⟨_, ov_Ii (C := CMul) (.inr ⟨by decide, by decide⟩), ?_⟩)
  | (refine ⟨_, ov_Ii (C := fun _ j => j ≠ 0) (by decide), ?_⟩)
  | (refine ⟨_, ov_Ii (C := CDivN) ⟨by decide, by decide⟩, ?_⟩)
  | (refine ⟨_, ov_Ii (C := CPow) ⟨by decide, by decide, by decide⟩, ?_⟩)
  | (refine ⟨[_], rfl, (show 1 ≤ 100000 by decide /-tup2-/), ?_⟩)
  | (refine ⟨[_, _], rfl, (show 2 ≤ 100000 by decide), ?_⟩)
  | (refine ⟨[_, _, _], rfl, (show 3 ≤ 100000 by decide), ?_⟩)
  | (refine ⟨[_, _, _, _], rfl, (show 4 ≤ 100000 by decide), ?_⟩)
  | (refine ⟨_, _, rfl, rfl, ?_⟩)
  | (refine ⟨_, _, rfl, ?_⟩))
local macro_rules | `(tactic| walk_at "s") => `(tactic| first
  | (with_reducible refine gs_retS 0 ?_)
  | walk_at "h")

theorem JD.form {h : Int} {ss : List (List Int)} {v : PyData} (z : formOk v = false) : JD h ss v dForm := by
  unfold JD
  unfold formOk at z
  cases q : formOf v with
  | bad => rfl
  | tree rs => rw [q] at z; cases z
  | none rs u w => rw [q] at z; cases z
theorem isRoads_pair (u w : PyData) : (rowsOf (.list [.tuple [u, w]])).isSome = (isWh u && isWh w) := by
  show (asRoads [PyData.tuple [u, w]]).isSome = _
  rw [asRoads_all, List.map_cons, asRoad_pair]
  simp
theorem formOk_tree_more (d : PyData) : ∀ r : List PyData, r ≠ [] → formOk (.tuple (.str "tree" :: d :: r)) = false
  | [], h => absurd rfl h
  | [a], _ => formOk_long _ _ _ (by simp) (by simp)
  | [a, b], _ => formOk_tree2 _ _ _
  | a :: b :: c :: r, _ => formOk_long _ _ _ (by simp) (by simp)
theorem formOk_none_more (d : PyData) : ∀ r : List PyData, r.length ≠ 2 → formOk (.tuple (.str "none" :: d :: r)) = false
  | [], _ => formOk_none1 _
  | [a], _ => formOk_long _ _ _ (by simp) (by simp)
  | [a, b], h => absurd rfl h
  | a :: b :: c :: r, _ => formOk_long _ _ _ (by simp) (by simp)
section
variable {P : Program} {w : World} {K : PySem.W.Frag} {mg : Str → Option Value} {base : Heap}
abbrev s__law_e_roads_due : Stmt := topS 30
theorem sc__law_e_roads_due : FnScope ["houses", "sets", "verdict", "roads", "k", "a", "b"] ["houses", "sets", "verdict"] (defScope s__law_e_roads_due) := ⟨rfl, rfl, rfl, by decide +kernel, rfl, by decide +kernel, by decide +kernel⟩
abbrev spDue : Sp := GSp false (fun x : Int × List (List Int) × PyData => [.dat (.int x.1), .bor (x.2.1.map dI), .dat x.2.2])
  (fun x => (1 ≤ x.1 ∧ x.1 ≤ 12) ∧ x.2.1.length < 1000 ∧ (∀ m ∈ x.2.1, m.Nodup ∧ m ≠ [] ∧ m.length < 60) ∧ VOk x.2.2) fun x r => ∃ d, JD x.1 x.2.1 x.2.2 d ∧ r = .dat d
theorem cal__law_e_roads_due (D : DefF K mg "_law_e_roads_due" s__law_e_roads_due ["houses", "sets", "verdict"]) (T : Txt mg) (C1 : Cal P w K mg base CX0 1 "_law_e_is_roads" ["thing"] spIsRoads) (C2 : Cal P w K mg base CX0 1 "_law_reach" ["roads", "start"] spReach)
    (C3 : Cal P w K mg base CX0 2 "_law_e_none_due" ["houses", "sets", "verdict"] spNone) (C4 : Cal P w K mg base CX0 2 "_law_e_hangs" ["members", "roads"] spLawHangs) :
    Cal P w K mg base CX0 3 "_law_e_roads_due" ["houses", "sets", "verdict"] spDue := by
  obtain ⟨f, fd, F, g, b⟩ := D
  obtain ⟨_, _, G__law_e_is_roads, g__law_e_is_roads, kp__law_e_is_roads, b__law_e_is_roads⟩ := C1
  obtain ⟨_, _, G__law_reach, g__law_reach, kp__law_reach, b__law_reach⟩ := C2
  obtain ⟨_, _, G__law_e_none_due, g__law_e_none_due, kp__law_e_none_due, b__law_e_none_due⟩ := C3
  obtain ⟨_, _, G__law_e_hangs, g__law_e_hangs, kp__law_e_hangs, b__law_e_hangs⟩ := C4
  refine ⟨f, fd, F.ok sc__law_e_roads_due (gsp_len (n := 3) fun _ => rfl) (fun cdv A outer s H vs Q E hr h => ?_), g, F.kp, b⟩
  refine ⟨_, (pss_cons (ps_if (PW.pt (pw_or (pt_not (pt_val (pe_callB (k_isi (K := K) rfl) (by rfl) T.isinstance_ (by decide +kernel) (pa_cons (pv 2) (pa_cons (pe_bltn (v := .ty "tuple") (by rfl) T.tuple_ (by decide +kernel) rfl) pa_nil))))) (pw_or (pt_cmpR op_lt (pe_callB (k_len (K := K) rfl) (by rfl) T.len_ (by decide +kernel) (pa_cons (pv 2) pa_nil)) pe_int (nomark _)) (pw_or (pt_cmpR (k_notin (K := K) rfl) (pe_ix (k_ixT (K := K) rfl) (pv 2) pe_int (fun _ _ => rfl)) (pe_lst (pa_cons pe_str (pa_cons pe_str pa_nil))) rfl) (pw_or1 (pt_not (pt_val (pe_call G__law_e_is_roads (hr.mono (by decide)) (by rfl) g__law_e_is_roads kp__law_e_is_roads b__law_e_is_roads .nil pass0 (pa_cons (pe_ix (k_ixT (K := K) rfl) (pv 2) pe_int (fun _ _ => rfl)) pa_nil))))))))) (pss_one (ps_ret (pe_tup (pa_cons pe_str pa_nil)))) pss_nil) (pss_cons (ps_if (PW.pt (pw_or (PW.pt (pw_and (pt_cmpR op_eq (pe_ix (k_ixT (K := K) rfl) (pv 2) pe_int (fun _ _ => rfl)) pe_str (nomark _)) (pw_and1 (pt_cmpR op_gt (pe_callB (k_len (K := K) rfl) (by rfl) T.len_ (by decide +kernel) (pa_cons (pv 2) pa_nil)) pe_int (nomark _))))) (pw_or1 (PW.pt (pw_and (pt_cmpR op_eq (pe_ix (k_ixT (K := K) rfl) (pv 2) pe_int (fun _ _ => rfl)) pe_str (nomark _)) (pw_and1 (pt_not (PW.pt (pw_and (pt_cmpR op_eq (pe_callB (k_len (K := K) rfl) (by rfl) T.len_ (by decide +kernel) (pa_cons (pv 2) pa_nil)) pe_int (nomark _)) (pw_and1 (pt_val (pe_call G__law_e_is_roads (hr.mono (by decide)) (by rfl) g__law_e_is_roads kp__law_e_is_roads b__law_e_is_roads .nil pass0 (pa_cons (pe_lst (pa_cons (pe_slice (k_slT (K := K) rfl) (pv 2) (po_some pe_int) po_none) pa_nil)) pa_nil))))))))))))) (pss_one (ps_ret (pe_tup (pa_cons pe_str pa_nil)))) pss_nil) (pss_cons (ps_set (i := 3) sc__law_e_roads_due.nd rfl (Or.inl rfl) (pe_callTy (k_list (K := K) rfl) (by rfl) T.list_ (by decide +kernel) (pa_cons (pe_ix (k_ixT (K := K) rfl) (pv 2) pe_int (fun _ _ => rfl)) pa_nil))) (pss_cons (ps_for PassesOwn.never rfl (pi_range1 (by rfl) T.range_ (pa_cons (pe_callB (k_len (K := K) rfl) (by rfl) T.len_ (by decide +kernel) (pa_cons (pv 3) pa_nil)) pa_nil)) (pg_name (i := 4) sc__law_e_roads_due.nd rfl (Or.inl rfl)) (pss_cons (ps_asg (pe_ix (k_ixL (K := K) rfl) (pv 3) (pv 4) (fun _ _ => rfl)) (k_pgt (K := K) (n := 2) rfl (by rfl) (pgs_cons (pg_name (i := 5) sc__law_e_roads_due.nd rfl (Or.inl rfl)) (pgs_cons (pg_name (i := 6) sc__law_e_roads_due.nd rfl (Or.inl rfl)) pgs_nil)) (by rfl) (by rfl))) (pss_one (ps_if (PW.pt (pw_or (pt_not (pt_chain3 op_le op_lt op_le pe_int (pv 5) (pv 6) (pv 0))) (pw_or1 (pt_cmpR (k_in (K := K) rfl) (pv 6) (pe_call G__law_reach (hr.mono (by decide)) (by rfl) g__law_reach kp__law_reach b__law_reach .nil pass0 (pa_cons (pe_slice (k_slL (K := K) rfl) (pv 3) po_none (po_some (pv 4))) (pa_cons (pv 5) pa_nil))) rfl)))) (pss_one (ps_ret (pe_tup (pa_cons pe_str (pa_cons (pe_op op_add (pv 4) pe_int) pa_nil))))) pss_nil)))) (pss_cons (ps_if (pt_cmpR op_lt (pe_callB (k_len (K := K) rfl) (by rfl) T.len_ (by decide +kernel) (pa_cons (pv 3) pa_nil)) (pe_op op_sub (pv 0) pe_int) (nomark _)) (pss_one (ps_ret (pe_tup (pa_cons pe_str (pa_cons (pe_op op_add (pe_callB (k_len (K := K) rfl) (by rfl) T.len_ (by decide +kernel) (pa_cons (pv 3) pa_nil)) pe_int) pa_nil))))) pss_nil) (pss_cons (ps_if (pt_cmpR op_eq (pe_ix (k_ixT (K := K) rfl) (pv 2) pe_int (fun _ _ => rfl)) pe_str (nomark _)) (pss_one (ps_ret (pe_call G__law_e_none_due (hr.mono (by decide)) (by rfl) g__law_e_none_due kp__law_e_none_due b__law_e_none_due .nil pass0 (pa_cons (pv 0) (pa_cons (pv 1) (pa_cons (pv 2) pa_nil)))))) pss_nil) (pss_cons (ps_for PassesOwn.never rfl (pi_range1 (by rfl) T.range_ (pa_cons (pe_callB (k_len (K := K) rfl) (by rfl) T.len_ (by decide +kernel) (pa_cons (pv 1) pa_nil)) pa_nil)) (pg_name (i := 4) sc__law_e_roads_due.nd rfl (Or.inl rfl)) (pss_one (ps_if (pt_not (pt_val (pe_call G__law_e_hangs (hr.mono (by decide)) (by rfl) g__law_e_hangs kp__law_e_hangs b__law_e_hangs .nil pass0 (pa_cons (pe_ix (k_ixL (K := K) rfl) (pv 1) (pv 4) (fun _ _ => rfl)) (pa_cons (pv 3) pa_nil))))) (pss_one (ps_ret (pe_tup (pa_cons pe_str (pa_cons (pe_op op_add (pv 4) pe_int) pa_nil))))) pss_nil))) (pss_one (ps_ret pe_non))))))))), ?_⟩
  refine gsp_body (n := 3) (m := 4) (fun _ => rfl) rfl (fun x hx => ?_) vs H Q E h
  obtain ⟨h, ss, v⟩ := x
  dsimp only at hx ⊢
  obtain ⟨⟨h1, h2⟩, hs, hm, hv⟩ := hx
  with_reducible refine gs_seq ?_
  refine gs_let [] ?_
  have fin : ∀ {M : List MO}, formOk v = false → RT false (fun r => ∃ d, JD h ss v d ∧ r = Rs.dat d) (.dat dForm) M := fun z => rt_d ⟨_, JD.form z, rfl⟩
  repeat walk_at "h"
  rcases hv with ⟨t, r, rfl, ht, hl, hrow⟩ | ⟨ds, rfl⟩ | rfl
  · refine ⟨fun z => (by cases z), fun _ => ?_⟩
    repeat walk_at "h"
    cases r with
    | nil =>
      refine ⟨fun _ => ?_, fun z => (by cases z)⟩
      refine ⟨fun _ => ?_, fun z => (by cases z)⟩
      repeat walk_at "h"
      exact fin rfl
    | cons d r =>
      obtain ⟨ds, hds, hdd'⟩ := hrow d r rfl
      have hdd : d = .list ds ∨ d = .tuple ds := hdd'.imp id And.left
      have hlt : (pLst d || pTup d) = true := by rcases hdd with rfl | rfl <;> rfl
      refine ⟨fun z => ?_, fun _ => ?_⟩
      · have := of_decide_eq_true z
        simp only [List.length_cons] at this
        omega
      repeat walk_at "h"
      refine ⟨_, ov_inS (ns := ["tree", "none"]) (neg := true) rfl, ?_⟩
      rw [if_pos rfl]
      refine ⟨_, rfl, fun z => ?_, fun _ => ?_⟩
      · rcases ht with rfl | rfl <;> simp at z
      repeat walk_at "h"
      refine ⟨d, .cons rfl .nil, fun es he => ?_, ?_⟩
      · rcases hdd with rfl | rfl <;> rcases he with he | he <;> cases he <;> exact hds
      rintro _ rfl
      refine rp_d ?_
      repeat walk_at "h"
      refine ⟨fun z => ?_, fun z => ?_⟩
      · repeat walk_at "h"
        refine fin (formOk_rows t d ?_ r)
        cases q : rowsOf d with
        | none => rfl
        | some rs => rw [q] at z; cases z
      have hsome : (rowsOf d).isSome = true := by simpa using z
      with_reducible refine gs_next ?_
      refine ⟨[.bor (ss.map dI)], _, rfl, rfl, Nat.le_refl _, ?_⟩
      with_reducible refine gs_seq ?_
      refine gs_ifB (fun b => b = true ↔ formOk (.tuple (.str t :: d :: r)) = false) ?_ ?_ ?_
      · repeat walk_at "h"
        rcases ht with rfl | rfl
        · refine ⟨fun _ => ?_, fun z => absurd rfl (of_decide_eq_false z)⟩
          repeat walk_at "h"
          refine ⟨fun z => ⟨rfl, fun _ => ?_, fun _ => rfl⟩, fun z => ?_⟩
          · have z := of_decide_eq_true z
            refine formOk_tree_more d r fun e => ?_
            subst e
            simp at z
          · have z := of_decide_eq_false z
            have e : r = [] := by
              cases r with
              | nil => rfl
              | cons a r => exact absurd (by simp only [List.length_cons]; omega) z
            subst e
            repeat walk_at "h"
            refine ⟨fun z => absurd (of_decide_eq_true z) tree_none, fun _ => ⟨rfl, fun z => (by cases z), fun z => ?_⟩⟩
            rw [formOk_tree, hsome] at z
            cases z
        · refine ⟨fun z => absurd (of_decide_eq_true z) none_tree, fun _ => ⟨fun z => (by cases z), fun _ => ?_⟩⟩
          repeat walk_at "h"
          refine ⟨fun _ => ?_, fun z => absurd rfl (of_decide_eq_false z)⟩
          repeat walk_at "h"
          refine ⟨fun z => ?_, fun z => ⟨rfl, fun _ => ?_, fun _ => rfl⟩⟩
          · have z := of_decide_eq_true z
            obtain ⟨a, c, rfl⟩ : ∃ a c, r = [a, c] := by
              match r, z with
              | [a, c], _ => exact ⟨a, c, rfl⟩
              | [], z => simp at z
              | [_], z => simp at z
              | _ :: _ :: _ :: _, z => simp only [List.length_cons] at z; omega
            refine gt_B ?_
            refine ge_call (ga_cons (ge_fz ?_))
            repeat walk_at "h"
            refine ⟨PreM.app _ _, _, ⟨Nat.le_refl _, _, rfl, rfl⟩, ?_⟩
            repeat walk_at "h"
            refine ⟨.list [.tuple [a, c]], .cons rfl .nil, fun es he => ?_, ?_⟩
            · rcases he with he | he <;> cases he
              exact (show 1 < 1000 by decide)
            rintro _ rfl
            refine rp_d ?_
            rw [isRoads_pair]
            refine ⟨_, rfl, rfl, ?_⟩
            rw [formOk_none, hsome]
            cases isWh a <;> cases isWh c <;> simp
          · have z := of_decide_eq_false z
            refine formOk_none_more d r fun e => z ?_
            simp only [List.length_cons, e]
            rfl
      · intro hb
        repeat walk_at "h"
        exact fin (hb.1 rfl)
      intro hb
      have hok : formOk (.tuple (.str t :: d :: r)) = true := by
        cases q : formOk (.tuple (.str t :: d :: r)) with
        | true => rfl
        | false => cases hb.2 q
      obtain ⟨rs, hrd⟩ : ∃ rs, rowsOf d = some rs := by
        cases q : rowsOf d with
        | none => rw [q] at hsome; cases hsome
        | some rs => exact ⟨rs, rfl⟩
      have hrl : rs.length < 1000 := by
        have hq := rowsOf_some hrd
        rcases hdd with rfl | rfl <;> rcases hq with e | e <;> cases e <;> rw [List.length_map] at hds <;> exact hds
      have jd : ∀ e f, RF h rs f → ((f ≠ .none ∧ e = f) ∨ (f = .none ∧ ((t = "tree" ∧ SF ss rs e) ∨ ∃ u w, t = "none" ∧ r = [.int u, .int w] ∧ NF h ss rs u w e))) → JD h ss (.tuple (.str t :: d :: r)) e := fun e f hf he => by
        rcases formOf_cases (.tuple (.str t :: d :: r)) with q | ⟨rd', rs', e0, e1, q⟩ | ⟨rd', rs', u, w, e0, e1, q⟩
        · unfold formOk at hok; rw [q] at hok; cases hok
        · cases e0
          rw [hrd] at e1; cases e1
          unfold JD; rw [q]
          refine ⟨f, hf, he.imp id fun ⟨y1, y2⟩ => ⟨y1, ?_⟩⟩
          rcases y2 with y2 | ⟨u, w, y2, _⟩
          · exact y2.2
          · exact absurd y2 tree_none
        · cases e0
          rw [hrd] at e1; cases e1
          unfold JD; rw [q]
          refine ⟨f, hf, he.imp id fun ⟨y1, y2⟩ => ⟨y1, ?_⟩⟩
          rcases y2 with y2 | ⟨u', w', y2, y3, y4⟩
          · exact absurd y2.1 none_tree
          · cases y3; exact y4
      with_reducible refine gs_next ?_
      with_reducible refine gs_seq ?_
      with_reducible refine gs_set ?_
      with_reducible refine ge_fz ?_
      repeat walk_at "h"
      refine cg_list (ds := rs.map prP) ?_ ?_
      · rcases rowsOf_some hrd with rfl | rfl
        · exact .inl rfl
        · exact .inr rfl
      refine fz_new ?_
      repeat walk_at "h"
      refine gs_for [4] ?_
      repeat walk_at "h"
      rw [List.length_map]
      refine ⟨by omega, ?_⟩
      refine ⟨fun i Γ M => ∃ o4 o5 o6, Γ = [some (.dat (.int h)), some (.ref 0), some (.dat (.tuple (.str t :: d :: r))), some (.dat (.list (rs.map prP))), o4, o5, o6] ∧ M = [.bor (ss.map dI)] ∧ ∀ j, j < i → ¬ rowBad h rs j, ⟨_, _, _, rfl, rfl, fun j z => absurd z (Nat.not_lt_zero j)⟩, fun _ _ _ _ => trivial, ?_, ?_⟩
      · rintro i d' Γ M hd ⟨o4, o5, o6, rfl, rfl, c⟩
        obtain ⟨hi, rfl⟩ := rng_get hd
        have hi : i < rs.length := by omega
        rw [Int.zero_add]
        have hr' : rs[i]? = some rs[i] := List.getElem?_eq_getElem hi
        generalize rs[i] = q at hr'
        have hbad : rowBad h rs i ↔ ¬ (1 ≤ q.1 ∧ q.1 < q.2 ∧ q.2 ≤ h) ∨ Conn (rs.take i) q.1 q.2 :=
          ⟨fun ⟨s, hs, z⟩ => by rw [hr'] at hs; cases hs; exact z, fun z => ⟨q, hr', z⟩⟩
        have fin2 : rowBad h rs i → ∀ M, RT false (fun x => ∃ e, JD h ss (.tuple (.str t :: d :: r)) e ∧ x = Rs.dat e) (.dat (dRow i)) M := fun z M =>
          rt_d ⟨_, jd _ _ (.inl ⟨i, hi, z, c, rfl⟩) (.inl ⟨fun y => (by cases y), rfl⟩), rfl⟩
        have more : ¬ rowBad h rs i → ∀ j, j < i + 1 → ¬ rowBad h rs j := fun z j hj => by
          by_cases e : j = i
          · rw [e]; exact z
          · exact c j (by omega)
        have htk : (rs.take i).length ≤ 40 := by
          have hf : Forest (rs.take i) := by
            have := forest_of_takes (rs := rs.take i) (fun k s hk hc => by
              have hki : k < i := by
                have := (List.getElem?_eq_some_iff.1 hk).1
                rw [List.length_take] at this; omega
              rw [List.getElem?_take, if_pos hki] at hk
              rw [List.take_take, Nat.min_eq_left (Nat.le_of_lt hki)] at hc
              exact c k hki ⟨s, hk, .inr hc⟩) (rs.take i).length (Nat.le_refl _)
            rw [List.take_length] at this
            exact this
          have hen : ∀ s ∈ rs.take i, s.1 ∈ upto h ∧ s.2 ∈ upto h := fun s hs => by
            obtain ⟨k, hk, e⟩ := List.mem_iff_getElem.1 hs
            have hki : k < i := by rw [List.length_take] at hk; omega
            have hsk : rs[k]? = some s := by
              have := List.getElem?_eq_getElem hk
              rw [e, List.getElem?_take, if_pos hki] at this
              exact this
            have : 1 ≤ s.1 ∧ s.1 < s.2 ∧ s.2 ≤ h := Classical.byContradiction fun z => c k hki ⟨s, hsk, .inl z⟩
            exact ⟨mem_upto.2 (by omega), mem_upto.2 (by omega)⟩
          have := forest_le (nd_upto h) (fun z => by have := mem_upto (h := h) (x := 1); rw [z] at this; exact absurd (this.2 ⟨Int.le_refl _, h1⟩) (by simp)) hf hen
          rw [len_upto] at this
          omega
        repeat walk_at "t"
        refine gs_let [] ?_
        with_reducible refine gs_seq ?_
        refine gs_asg [5, 6] ?_
        repeat walk_at "h"
        refine ⟨_, ov_ixL rfl (atI_nat (j := i) (v := prP q) (by rw [List.getElem?_map, hr'] <;> rfl)), ?_⟩
        repeat walk_at "h"
        have back : ∀ N, ¬ rowBad h rs i → ∃ M4 N', [MO.bor (ss.map dI)] ++ N = M4 ++ N' ∧ refsLt M4.length (wipeG [some (.dat (.int h)), some (.ref 0), some (.dat (.tuple (.str t :: d :: r))), some (.dat (.list (rs.map prP))), some (.dat (.int (i : Int))), some (.dat (.int q.1)), some (.dat (.int q.2))] []) = true ∧ 1 ≤ M4.length ∧
            ∃ o4 o5 o6, wipeG [some (.dat (.int h)), some (.ref 0), some (.dat (.tuple (.str t :: d :: r))), some (.dat (.list (rs.map prP))), some (.dat (.int (i : Int))), some (.dat (.int q.1)), some (.dat (.int q.2))] [] = [some (.dat (.int h)), some (.ref 0), some (.dat (.tuple (.str t :: d :: r))), some (.dat (.list (rs.map prP))), o4, o5, o6] ∧ M4 = [.bor (ss.map dI)] ∧ ∀ j, j < i + 1 → ¬ rowBad h rs j :=
          fun N nb => ⟨_, N, rfl, rfl, Nat.le_refl _, _, _, _, rfl, rfl, more nb⟩
        refine ⟨fun c1 => ⟨_, rfl, fun _ => ⟨fun _ => ?_, fun z => (by cases z)⟩, fun z => (by cases z)⟩, fun c1 => ?_⟩
        · repeat walk_at "h"
          exact fin2 (hbad.2 (.inl fun z => of_decide_eq_false c1 z.1)) _
        have c1 := of_decide_eq_true c1
        repeat walk_at "h"
        refine ⟨fun c2 => ⟨_, rfl, fun _ => ⟨fun _ => ?_, fun z => (by cases z)⟩, fun z => (by cases z)⟩, fun c2 => ?_⟩
        · repeat walk_at "h"
          exact fin2 (hbad.2 (.inl fun z => of_decide_eq_false c2 z.2.1)) _
        have c2 := of_decide_eq_true c2
        repeat walk_at "h"
        refine ⟨fun c3 => ⟨fun _ => ?_, fun z => (by cases z)⟩, fun c3 => ?_⟩
        · repeat walk_at "h"
          exact fin2 (hbad.2 (.inl fun z => by rw [decide_eq_true z.2.2] at c3; cases c3)) _
        have c3 : q.2 ≤ h := by simpa using c3
        repeat walk_at "h"
        have ecut : GL.cutD (rs.map prP) none (some (i : Int)) = (rs.take i).map prP := by
          unfold GL.cutD
          rw [HT.sIx_none, HT.sIx_nat, List.drop_zero, Nat.sub_zero, List.map_take, Nat.min_eq_left (by rw [List.length_map]; omega)]
        rw [ecut]
        repeat walk_at "h"
        refine ⟨(rs.take i, q.1), .cons rfl (.cons rfl .nil), htk, ?_⟩
        rintro _ ⟨ms, rfl, _, mc⟩
        refine rp_n ?_
        repeat walk_at "h"
        refine ⟨fun c4 => ?_, fun c4 => ?_⟩
        · repeat walk_at "h"
          exact fin2 (hbad.2 (.inr ((mc q.2).1 (of_decide_eq_true c4)))) _
        · with_reducible refine gs_next ?_
          exact back [_, _] fun z => (hbad.1 z).elim (fun y => y ⟨c1, c2, c3⟩) fun y => of_decide_eq_false c4 ((mc q.2).2 y)
      · rintro Γ M ⟨o4, o5, o6, rfl, rfl, c⟩
        unfold rngD at c
        rw [List.length_map, List.length_range] at c
        have ok' : ∀ j, ¬ rowBad h rs j := fun j z => by
          obtain ⟨s, hs, _⟩ := id z
          have := (List.getElem?_eq_some_iff.1 hs).1
          exact c j (by omega) z
        repeat walk_at "h"
        rw [List.length_map]
        refine ⟨fun z => ?_, fun z => ?_⟩
        · have z := of_decide_eq_true z
          repeat walk_at "h"
          rw [List.length_map]
          repeat walk_at "h"
          exact rt_d ⟨_, jd _ _ (.inr ⟨ok', .inl ⟨z, rfl⟩⟩) (.inl ⟨fun y => (by cases y), rfl⟩), rfl⟩
        have z := of_decide_eq_false z
        have hrf : RF h rs .none := .inr ⟨ok', .inr ⟨z, rfl⟩⟩
        have tr := hrf.tree
        repeat walk_at "h"
        refine ⟨fun z => ?_, fun z => ?_⟩
        · have et : t = "none" := of_decide_eq_true z
          subst et
          obtain ⟨u, w, er⟩ : ∃ u w, r = [.int u, .int w] := by
            rcases formOf_cases (.tuple (.str "none" :: d :: r)) with q | ⟨rd', rs', e0, e1, q⟩ | ⟨rd', rs', u, w, e0, e1, q⟩
            · unfold formOk at hok; rw [q] at hok; cases hok
            · cases e0
            · cases e0; exact ⟨_, _, rfl⟩
          subst er
          repeat walk_at "h"
          refine ⟨(h, ss, rs, d, u, w), .cons rfl (.cons rfl (.cons rfl .nil)), ⟨tr, ⟨h1, h2⟩, hs, hrd⟩, ?_⟩
          rintro _ ⟨e, he, rfl⟩
          exact rp_d (rt_d ⟨_, jd _ _ hrf (.inr ⟨rfl, .inr ⟨u, w, rfl, rfl, he⟩⟩), rfl⟩)
        · have et : t ≠ "none" := of_decide_eq_false z
          have et2 : t = "tree" := ht.resolve_right et
          have hrs := tr.short h1
          repeat walk_at "h"
          refine gs_for [4] ?_
          repeat walk_at "h"
          rw [List.length_map]
          refine ⟨by omega, ?_⟩
          refine ⟨fun i Γ M => ∃ o4 o5 o6, Γ = [some (.dat (.int h)), some (.ref 0), some (.dat (.tuple (.str t :: d :: r))), some (.dat (.list (rs.map prP))), o4, o5, o6] ∧ M = [.bor (ss.map dI)] ∧ ∀ (j : Nat) m, j < i → ss[j]? = some m → hangs rs m, ⟨_, _, _, rfl, rfl, fun j m z => absurd z (Nat.not_lt_zero j)⟩, fun _ _ _ _ => trivial, ?_, ?_⟩
          · rintro i d' Γ M hd ⟨o4, o5, o6, rfl, rfl, c⟩
            obtain ⟨hi, rfl⟩ := rng_get hd
            have hi : i < ss.length := by omega
            rw [Int.zero_add]
            have hr' : ss[i]? = some ss[i] := List.getElem?_eq_getElem hi
            generalize ss[i] = m at hr'
            have hmm := hm m (List.mem_of_getElem? hr')
            repeat walk_at "t"
            repeat walk_at "h"
            refine ⟨_, ov_ixL rfl (atI_nat (j := i) (v := dI m) (by rw [List.getElem?_map, hr'] <;> rfl)), ?_⟩
            repeat walk_at "h"
            refine ⟨(m, rs), .cons rfl (.cons rfl .nil), ⟨hmm.1, hmm.2.1, hmm.2.2, (show rs.length ≤ 40 by omega), tr.forest⟩, ?_⟩
            rintro _ rfl
            refine rp_d ?_
            repeat walk_at "h"
            refine ⟨fun z => ?_, fun z => ?_⟩
            · repeat walk_at "h"
              refine rt_d ⟨_, jd _ _ hrf (.inr ⟨rfl, .inl ⟨et2, .inr ⟨i, m, hr', fun y => ?_, fun j m' hj hm2 => c j m' hj hm2, rfl⟩⟩⟩), rfl⟩
              have y : (within rs m).length + 1 = m.length := y
              rw [decide_eq_true y] at z
              cases z
            · repeat walk_at "h"
              refine ⟨_, _, _, rfl, rfl, fun j m' hj hm2 => ?_⟩
              by_cases e : j = i
              · subst e
                rw [hr'] at hm2
                cases hm2
                show (within rs m).length + 1 = m.length
                simpa using z
              · exact c j m' (by omega) hm2
          · rintro Γ M ⟨o4, o5, o6, rfl, rfl, c⟩
            unfold rngD at c
            rw [List.length_map, List.length_range] at c
            repeat walk_at "h"
            refine rt_d ⟨_, jd _ _ hrf (.inr ⟨rfl, .inl ⟨et2, .inl ⟨rfl, fun k m hk => c k m (by have := (List.getElem?_eq_some_iff.1 hk).1; omega) hk⟩⟩⟩), rfl⟩
  · refine ⟨fun _ => ?_, fun z => (by cases z)⟩
    refine ⟨fun _ => ?_, fun z => (by cases z)⟩
    repeat walk_at "h"
    exact fin rfl
  · refine ⟨fun _ => ?_, fun z => (by cases z)⟩
    refine ⟨fun _ => ?_, fun z => (by cases z)⟩
    repeat walk_at "h"
    exact fin rfl
end
end K99

/-! Kruskal: taking the heaviest roads first leaves a tree that no road betters. -/
namespace K99
open PySem PyProof.Rows L2 GL Gr
def heavy (ss : List (List Int)) (rs : List Road) (k : Int) : List Road := rs.filter fun s => decide (k ≤ wt ss s.1 s.2)
theorem mem_heavy {ss : List (List Int)} {rs : List Road} {k : Int} {s : Road} : s ∈ heavy ss rs k ↔ s ∈ rs ∧ k ≤ wt ss s.1 s.2 := by
  unfold heavy
  rw [List.mem_filter, decide_eq_true_eq]
structure Kr (h : Int) (ss : List (List Int)) (W : Int) (done : Int → Int → Prop) (rs : List Road) : Prop where
  ok : ∀ r ∈ rs, (1 ≤ r.1 ∧ r.1 < r.2 ∧ r.2 ≤ h) ∧ W ≤ wt ss r.1 r.2
  forest : Forest rs
  con : ∀ a b, 1 ≤ a → a < b → b ≤ h → (W < wt ss a b ∨ (wt ss a b = W ∧ done a b)) → Conn (heavy ss rs (wt ss a b)) a b
theorem wt_le (ss : List (List Int)) (a b : Int) : wt ss a b ≤ ss.length := by
  unfold wt wtN
  have := List.length_filter_le (fun m : List Int => decide (a ∈ m) && decide (b ∈ m)) ss
  omega
theorem wt_nn (ss : List (List Int)) (a b : Int) : 0 ≤ wt ss a b := by unfold wt; omega
theorem Kr.init (h : Int) (ss : List (List Int)) : Kr h ss ss.length (fun _ _ => False) [] := by
  refine ⟨fun r hr => (by cases hr), trivial, fun a b _ _ _ hc => ?_⟩
  rcases hc with hc | ⟨_, hc⟩
  · have := wt_le ss a b; omega
  · exact hc.elim
theorem Kr.next {h : Int} {ss : List (List Int)} {W : Int} {done : Int → Int → Prop} {rs : List Road} (k : Kr h ss W done rs) (all : ∀ a b, 1 ≤ a → a < b → b ≤ h → done a b) : Kr h ss (W - 1) (fun _ _ => False) rs := by
  refine ⟨fun r hr => ⟨(k.ok r hr).1, by have := (k.ok r hr).2; omega⟩, k.forest, fun a b h1 h2 h3 hc => k.con a b h1 h2 h3 ?_⟩
  rcases hc with hc | ⟨_, hc⟩
  · by_cases e : wt ss a b = W
    · exact .inr ⟨e, all a b h1 h2 h3⟩
    · exact .inl (by omega)
  · exact hc.elim
theorem Kr.skip {h : Int} {ss : List (List Int)} {W : Int} {done done' : Int → Int → Prop} {rs : List Road} (k : Kr h ss W done rs) {a b : Int} (hd : ∀ x y, done' x y → done x y ∨ (x = a ∧ y = b)) (hs : wt ss a b ≠ W ∨ Conn rs a b) : Kr h ss W done' rs := by
  refine ⟨k.ok, k.forest, fun x y h1 h2 h3 hc => ?_⟩
  rcases hc with hc | ⟨e, hc⟩
  · exact k.con x y h1 h2 h3 (.inl hc)
  · rcases hd x y hc with hc | ⟨rfl, rfl⟩
    · exact k.con x y h1 h2 h3 (.inr ⟨e, hc⟩)
    · rcases hs with hs | hs
      · exact absurd e hs
      · exact hs.sub fun s hs => mem_heavy.2 ⟨hs, by have := (k.ok s hs).2; omega⟩
theorem Kr.take {h : Int} {ss : List (List Int)} {W : Int} {done done' : Int → Int → Prop} {rs : List Road} (k : Kr h ss W done rs) {a b : Int} (hd : ∀ x y, done' x y → done x y ∨ (x = a ∧ y = b)) (hw : wt ss a b = W) (hn : ¬ Conn rs a b) (hab : 1 ≤ a ∧ a < b ∧ b ≤ h) : Kr h ss W done' (rs ++ [(a, b)]) := by
  have up : ∀ {x y n}, Conn (heavy ss rs n) x y → Conn (heavy ss (rs ++ [(a, b)]) n) x y := fun c => c.sub fun s hs => by
    obtain ⟨h1, h2⟩ := mem_heavy.1 hs
    exact mem_heavy.2 ⟨List.mem_append_left _ h1, h2⟩
  refine ⟨fun r hr => ?_, k.forest.snoc hn, fun x y h1 h2 h3 hc => ?_⟩
  · rcases List.mem_append.1 hr with hr | hr
    · exact k.ok r hr
    · rw [List.mem_singleton.1 hr]; exact ⟨hab, by show W ≤ wt ss a b; omega⟩
  · rcases hc with hc | ⟨e, hc⟩
    · exact up (k.con x y h1 h2 h3 (.inl hc))
    · rcases hd x y hc with hc | ⟨rfl, rfl⟩
      · exact up (k.con x y h1 h2 h3 (.inr ⟨e, hc⟩))
      · exact Conn.mem (r := (x, y)) (mem_heavy.2 ⟨List.mem_append_right _ (List.mem_singleton.2 rfl), Int.le_refl _⟩)
theorem Kr.short {h : Int} {ss : List (List Int)} {W : Int} {done : Int → Int → Prop} {rs : List Road} (k : Kr h ss W done rs) (h1 : 1 ≤ h) : rs.length + 1 ≤ h.toNat := by
  have := forest_le (nd_upto h) (fun z => by have := mem_upto (h := h) (x := 1); rw [z] at this; exact absurd (this.2 ⟨Int.le_refl _, h1⟩) (by simp)) k.forest fun r hr => by
    have := (k.ok r hr).1
    exact ⟨mem_upto.2 (by omega), mem_upto.2 (by omega)⟩
  rw [len_upto] at this
  exact this
theorem Kr.tree {h : Int} {ss : List (List Int)} {rs : List Road} (k : Kr h ss (-1) (fun _ _ => False) rs) (h1 : 1 ≤ h) : Tree h rs := by
  refine ⟨fun r hr => (k.ok r hr).1, k.forest, ?_⟩
  have hc : ∀ x ∈ upto h, ∀ y ∈ upto h, Conn rs x y := fun x hx y hy => by
    have hx := mem_upto.1 hx
    have hy := mem_upto.1 hy
    have up : ∀ a b, 1 ≤ a → a < b → b ≤ h → Conn rs a b := fun a b h1 h2 h3 =>
      (k.con a b h1 h2 h3 (.inl (by have := wt_nn ss a b; omega))).sub fun s hs => (mem_heavy.1 hs).1
    rcases Int.lt_trichotomy x y with z | z | z
    · exact up x y hx.1 z hy.2
    · rw [z]; exact .refl _ _
    · exact (up y x hy.1 z hx.2).symm
  have := forest_one (nd_upto h) (fun z => by have := mem_upto (h := h) (x := 1); rw [z] at this; exact absurd (this.2 ⟨Int.le_refl _, h1⟩) (by simp)) k.forest (fun r hr => by
    have := (k.ok r hr).1
    exact ⟨mem_upto.2 (by omega), mem_upto.2 (by omega)⟩) hc
  rw [len_upto] at this
  omega
theorem Kr.best {h : Int} {ss : List (List Int)} {rs : List Road} (k : Kr h ss (-1) (fun _ _ => False) rs) : ∀ a b, 1 ≤ a → a < b → b ≤ h → ¬ Lighter ss rs a b := by
  rintro a b h1 h2 h3 ⟨r, hr, hn, hw⟩
  refine hn ((k.con a b h1 h2 h3 (.inl (by have := wt_nn ss a b; omega))).sub fun s hs => ?_)
  obtain ⟨z1, z2⟩ := mem_heavy.1 hs
  exact mem_less.2 ⟨z1, fun e => by subst e; omega⟩
theorem wsum_nat (ss : List (List Int)) : ∀ rs : List Road, wsum ss rs = ((rs.map fun r => wtN ss r.1 r.2).sum : Nat)
  | [] => rfl
  | r :: rs => by
    have ih := wsum_nat ss rs
    unfold wsum at ih ⊢
    rw [List.map_cons, List.map_cons, List.sum_cons, List.sum_cons, ih]
    unfold wt
    omega
theorem asum_nat : ∀ ss : List (List Int), (∀ m ∈ ss, m ≠ []) → asum ss = ((ss.map fun m => m.length - 1).sum : Nat)
  | [], _ => rfl
  | m :: ss, h => by
    have ih := asum_nat ss fun x hx => h x (List.mem_cons_of_mem _ hx)
    have hm : 0 < m.length := List.length_pos_iff.2 (h m List.mem_cons_self)
    unfold asum at ih ⊢
    rw [List.map_cons, List.map_cons, List.sum_cons, List.sum_cons, ih]
    omega
def rightOf (ss : List (List Int)) (rs : List Road) : PyData := if wsum ss rs = asum ss then .tuple [.str "tree", .list (rs.map prP)] else .tuple [.str "none", .tuple (rs.map prP), .int (wsum ss rs), .int (asum ss)]
theorem Kr.right {h : Int} {ss : List (List Int)} {rs : List Road} (k : Kr h ss (-1) (fun _ _ => False) rs) (h1 : 1 ≤ h) (hs : ∀ m ∈ ss, m.Nodup ∧ m ≠ []) : JD h ss (rightOf ss rs) .none := by
  have t := k.tree h1
  have e1 := wsum_nat ss rs
  have e2 := asum_nat ss fun m hm => (hs m hm).2
  unfold rightOf
  by_cases e : wsum ss rs = asum ss
  · rw [if_pos e]
    have hf : formOf (.tuple [.str "tree", .list (rs.map prP)]) = .tree rs := by
      show (if (Str.ofString "tree" = Str.ofString "tree") then (match asRoads (rs.map prP) with | some rs => Form.tree rs | none => .bad) else .bad) = _
      rw [if_pos rfl, asRoads_prP]
    unfold JD; rw [hf]
    exact ⟨_, t.rf, .inr ⟨rfl, .inl ⟨rfl, fun k m hk => weight_eq t.forest hs (by omega) m (List.mem_of_getElem? hk)⟩⟩⟩
  · rw [if_neg e]
    have hf : formOf (.tuple [.str "none", .tuple (rs.map prP), .int (wsum ss rs), .int (asum ss)]) = .none rs (wsum ss rs) (asum ss) := by
      simp [formOf, rowsOf, asRoads_prP]
    unfold JD; rw [hf]
    have := weight_le t.forest hs
    exact ⟨_, t.rf, .inr ⟨rfl, .inr (.inr ⟨rfl, rfl, _, .inl ⟨rfl, k.best⟩, .inr ⟨rfl, .inl ⟨by omega, rfl⟩⟩⟩)⟩⟩
end K99

/-! GL9: slots let go; slices from the front. -/
namespace GL
open PySem PySem.Spec PyProof.Rows L2
theorem gs_wipe {Γ : Sl} {M : List MO} {t : TS} {E : GEnd} (ws : List Nat) (h : GS t (wipeG Γ ws) M E) : GS t Γ M E := gs_less (wipeG_len _ _) (fun i d hi => (wipeG_some hi).1) h
theorem cut_pre (ds : List PyData) {k : Int} (h : 0 ≤ k) : GL.cutD ds none (some k) = ds.take k.toNat := by
  obtain ⟨n, rfl⟩ : ∃ n : Nat, k = n := ⟨k.toNat, by omega⟩
  unfold GL.cutD
  rw [HT.sIx_none, HT.sIx_nat, List.drop_zero, Nat.sub_zero, Int.toNat_natCast]
  by_cases hn : n ≤ ds.length
  · rw [Nat.min_eq_left hn]
  · rw [Nat.min_eq_right (by omega), List.take_of_length_le (Nat.le_refl _), List.take_of_length_le (by omega)]
end GL

namespace K99
open PySem PySem.Spec PyProof.Rows L2 GL Gr
local macro_rules | `(tactic| walk_at "g") => `(tactic| first
  | (with_reducible refine gs_seq ?_)
  | (with_reducible refine gs_set ?_)
  | (with_reducible refine gs_ret ?_)
  | (with_reducible refine gs_if ?_)
  | (with_reducible refine gs_drop ?_)
  | (with_reducible refine gs_next ?_)
  | ((with_reducible refine ge_var (d := ?dv) ?hv ?pv); (case hv => exact rfl))
  | (with_reducible refine ge_int ?_)
  | (with_reducible refine ge_bl ?_)
  | (with_reducible refine ge_str ?_)
  | (with_reducible refine ge_non ?_)
  | (with_reducible refine ge_cat ?_)
  | (with_reducible refine ge_ov ?_)
  | (with_reducible refine og_ov ?_)
  | (with_reducible refine ge_chain3 ?_)
  | (with_reducible refine ge_listRg1 ?_)
  | (with_reducible refine ge_isi ?_)
  | (with_reducible refine ge_isi2 ?_)
  | (with_reducible refine ge_cb ?_)
  | (with_reducible refine ga_nil ?_)
  | (with_reducible refine ga_cons ?_)
  | (with_reducible refine ge_andV ?_)
  | (with_reducible refine ge_orV ?_)
  | (with_reducible refine ge_notV ?_)
  | (with_reducible refine ge_isN ?_)
  | (with_reducible refine ge_notN ?_)
  | (with_reducible refine ge_if ?_)
  | (with_reducible refine ge_tup ?_)
  | (with_reducible refine ge_lst ?_)
  | (with_reducible refine ge_slL ?_)
  | (with_reducible refine ge_slT ?_)
  | (with_reducible refine go_none ?_)
  | (with_reducible refine go_some ?_)
  | (with_reducible refine gt_test ?_)
  | (with_reducible refine gt_B ?_)
  | (with_reducible refine gt_and ?_)
  | (with_reducible refine gt_or ?_)
  | (with_reducible refine gt_not ?_)
  | (with_reducible refine gi_list ?_)
  | (with_reducible refine gi_tup ?_)
  | (with_reducible refine gi_rng1 ?_)
  | (with_reducible refine gi_rng2 ?_)
  | (with_reducible refine gi_rng3 ?_)
  | (with_reducible refine gi_enum ?_)
  | (with_reducible refine gi_zipT ?_)
  | (with_reducible refine gs_asg _ ?_)
  | (with_reducible refine gg_name (by decide) ?_)
  | ((with_reducible refine gg_tup ?hn ?hg); (case hn => exact rfl))
  | (with_reducible refine ggs_cons ?_)
  | (with_reducible refine ggs_nil ?_)
  | (with_reducible refine ge_append ?_)
  | (with_reducible refine ge_popAt ?_)
  | (with_reducible refine ge_dget ?_)
  | (with_reducible refine ge_din ?_)
  | (with_reducible refine ge_dnotin ?_)
  | (with_reducible refine gs_dput ?_)
  | (with_reducible refine ge_call ?_)
  | (with_reducible refine ge_callS ?_)
  | (refine ⟨_, ov_I0i, ?_⟩)
  | (refine ⟨_, ov_I0b, ?_⟩)
  | (refine ⟨_, ov_isin rfl, ?_⟩)
  | (refine ⟨_, ov_notin rfl, ?_⟩)
  | (refine ⟨_, ov_eq rfl, ?_⟩)
  | (refine ⟨_, ov_ne rfl, ?_⟩)
  | (refine cg_len (.inl rfl) ?_)
  | (refine cg_len (.inr rfl) ?_)
  | (refine ⟨_, ov_ixT rfl rfl, ?_⟩)
  | (refine ⟨_, ov_ixL rfl rfl, ?_⟩)
  | (refine ⟨_, ov_ixT rfl (atI_nat (j := 0) rfl), ?_⟩)
  | (refine ⟨_, ov_ixL rfl (atI_nat (j := 0) rfl), ?_⟩)
  | (refine ⟨_, ov_ixT rfl (atI_nat (j := 1) rfl), ?_⟩)
  | (refine ⟨_, ov_ixL rfl (atI_nat (j := 1) rfl), ?_⟩)
  | (refine ⟨_, ov_ixT rfl (atI_nat (j := 2) rfl), ?_⟩)
  | (refine ⟨_, ov_ixL rfl (atI_nat (j := 2) rfl), ?_⟩)
  | (refine ⟨_, ov_ixT rfl (atI_nat (j := 3) rfl), ?_⟩)
  | (refine ⟨_, ov_ixL rfl (atI_nat (j := 3) rfl), ?_⟩)
  | (refine ⟨_, _, rfl, kit_int _, ?_⟩)
  | (refine ⟨_, _, rfl, kit_bool _, ?_⟩)
  | (refine ⟨_, _, rfl, kit_str _, ?_⟩)
  | (refine ⟨_, _, rfl, kit_tuple _, ?_⟩)
  | (refine ⟨_, _, rfl, kit_list _, ?_⟩)
  | (refine ⟨_, _, rfl, kit_dict _, ?_⟩)
  | (refine ⟨_, _, rfl, kit_lt _, ?_⟩)
  | (refine ⟨_, rfl, ?_⟩))
local macro_rules | `(tactic| walk_at "t") => `(tactic| first
  | (with_reducible refine gg_name (by decide) ?_)
  | ((with_reducible refine gg_tup ?hn ?hg); (case hn => exact rfl))
  | (with_reducible refine ggs_cons ?_)
  | (with_reducible refine ggs_nil ?_))

local macro_rules | `(tactic| walk_at "h") => `(tactic| first
  | (with_reducible refine ge_kdict ?_)
  | walk_at "g"
  | (with_reducible refine gs_setS ?_)
  | (refine ⟨_, ov_ixS rfl rfl, ?_⟩)
  | (refine ⟨_, ov_Ii (C := CMul) (.inr ⟨by decide, by decide⟩), ?_⟩)
  | (refine ⟨_, ov_Ii (C := fun _ j => j ≠ 0) (by decide), ?_⟩)
  | (refine ⟨_, ov_Ii (C := CDivN) ⟨by decide, by decide⟩, ?_⟩)
  | (refine ⟨_, ov_Ii (C := CPow) ⟨by decide, by decide, by decide⟩, ?_⟩)
  | (refine ⟨[_], rfl, (show 1 ≤ 100000 by decide /-tup2-/), ?_⟩)
  | (refine ⟨[_, _], rfl, (show 2 ≤ 100000 by decide), ?_⟩)
  | (refine ⟨[_, _, _], rfl, (show 3 ≤ 100000 by decide), ?_⟩)
  | (refine ⟨[_, _, _, _], rfl, (show 4 ≤ 100000 by decide), ?_⟩)
  | (refine ⟨_, _, rfl, rfl, ?_⟩)
  | (refine ⟨_, _, rfl, ?_⟩))
local macro_rules | `(tactic| walk_at "s") => `(tactic| first
  | (with_reducible refine gs_retS 0 ?_)
  | walk_at "h")

def Good (h : Int) (m : List Int) : Prop := m.Nodup ∧ m ≠ [] ∧ ∀ x ∈ m, x ∈ upto h
theorem Good.len {h : Int} {m : List Int} (g : Good h m) : m.length ≤ h.toNat := by
  have := len_sub g.1 (nd_upto h) g.2.2
  rw [len_upto] at this
  exact this
theorem Good.bare {h : Int} {m : List Int} (g : Good h m) : Good h (bare h m) := by
  refine ⟨(nd_upto h).sublist List.filter_sublist, ?_, fun x hx => (mem_bare.1 hx).1⟩
  cases m with
  | nil => exact absurd rfl g.2.1
  | cons x m => exact List.ne_nil_of_mem (mem_bare.2 ⟨g.2.2 x List.mem_cons_self, List.mem_cons_self⟩)
def OkV (v : PyData) : Prop := VOk v ∧ ∀ a b c d, v = .tuple [a, b, c, d] → a = .str "none"
theorem okv (t : Str) (r : List PyData) (ht : t = "tree" ∨ t = "none") (hl : r.length ≤ 3) (h4 : r.length = 3 → t = "none") (hr : ∀ d s, r = d :: s → ∃ ds : List PyData, ds.length < 1000 ∧ d = .list ds) : OkV (.tuple (.str t :: r)) := by
  refine ⟨.inl ⟨t, r, rfl, ht, hl, fun d s e => ?_⟩, fun a b c d e => ?_⟩
  · obtain ⟨ds, h1, h2⟩ := hr d s e
    exact ⟨ds, h1, .inl h2⟩
  · injection e with e
    injection e with e1 e2
    rw [← e1, h4 (by rw [e2] <;> rfl)]
theorem okv_list (ds : List PyData) : OkV (.list ds) := ⟨.inr (.inl ⟨_, rfl⟩), fun a b c d e => by cases e⟩
theorem okv_none : OkV .none := ⟨.inr (.inr rfl), fun a b c d e => by cases e⟩
theorem ix_in {n : Nat} {i : Int} (h0 : 0 ≤ i) (h1 : i < n) : ixN n i = some i.toNat := by
  unfold ixN
  rw [if_pos h0, if_pos h1]
theorem rightOf_ok {ss : List (List Int)} {bs : List Road} (h : bs.length < 1000) : VOk (rightOf ss bs) := by
  unfold rightOf
  split
  · exact .inl ⟨_, _, rfl, .inl rfl, (show 1 ≤ 3 by decide), fun d s e => by cases e; exact ⟨_, by rw [List.length_map]; exact h, .inl rfl⟩⟩
  · exact .inl ⟨_, _, rfl, .inr rfl, (show 3 ≤ 3 by decide), fun d s e => by cases e; exact ⟨_, by rw [List.length_map]; exact h, .inr ⟨rfl, rfl⟩⟩⟩
section
variable {P : Program} {w : World} {K : PySem.W.Frag} {mg : Str → Option Value} {base : Heap}
abbrev s__law_e_roads : Stmt := topS 32
theorem sc__law_e_roads : FnScope ["source", "houses", "tree", "sets", "turn", "members", "bare", "couples", "a", "best", "weight", "b", "asked", "right", "handed", "roads", "kind", "at", "most", "wrong", "bent", "h"] ["source"] (defScope s__law_e_roads) := ⟨rfl, rfl, rfl, by decide +kernel, rfl, by decide +kernel, by decide +kernel⟩
abbrev spRoads : Sp := GSp true (fun _ : Unit => []) (fun _ => True) fun _ r => r = .dat (.bool true)
theorem cal__law_e_roads (D : DefF K mg "_law_e_roads" s__law_e_roads ["source"]) (T : Txt mg) (C1 : Cal P w K mg base CX0 1 "_law_pick" ["source", "many"] spPick) (C2 : Cal P w K mg base CX0 2 "_law_shuffled" ["source", "things"] spShuffled)
    (C3 : Cal P w K mg base CX0 3 "_law_tree_roads" ["source", "many"] spTree) (C4 : Cal P w K mg base CX0 1 "_law_reach" ["roads", "start"] spReach) (C5 : Cal P w K mg base CX0 1 "_law_e_weight" ["sets", "a", "b"] spWeight)
    (C6 : Cal P w K mg base CX0 4 "judge_roads" ["houses", "sets", "verdict"] spJudge) (C7 : Cal P w K mg base CX0 3 "_law_e_roads_due" ["houses", "sets", "verdict"] spDue) (C8 : Cal P w K mg base CX0 3 "_law_same" ["answer", "due"] (spSame Simple))
    (C9 : Cal P w K mg base CX0 1 "_law_e_is_roads" ["thing"] spIsRoads) : Cal P w K mg base CX0 5 "_law_e_roads" ["source"] spRoads := by
  obtain ⟨f, fd, F, g, b⟩ := D
  obtain ⟨_, _, G__law_pick, g__law_pick, kp__law_pick, b__law_pick⟩ := C1
  obtain ⟨_, _, G__law_shuffled, g__law_shuffled, kp__law_shuffled, b__law_shuffled⟩ := C2
  obtain ⟨_, _, G__law_tree_roads, g__law_tree_roads, kp__law_tree_roads, b__law_tree_roads⟩ := C3
  obtain ⟨_, _, G__law_reach, g__law_reach, kp__law_reach, b__law_reach⟩ := C4
  obtain ⟨_, _, G__law_e_weight, g__law_e_weight, kp__law_e_weight, b__law_e_weight⟩ := C5
  obtain ⟨_, _, G_judge_roads, g_judge_roads, kp_judge_roads, b_judge_roads⟩ := C6
  obtain ⟨_, _, G__law_e_roads_due, g__law_e_roads_due, kp__law_e_roads_due, b__law_e_roads_due⟩ := C7
  obtain ⟨_, _, G__law_same, g__law_same, kp__law_same, b__law_same⟩ := C8
  obtain ⟨_, _, G__law_e_is_roads, g__law_e_is_roads, kp__law_e_is_roads, b__law_e_is_roads⟩ := C9
  refine ⟨f, fd, F.ok sc__law_e_roads (gsp_len (n := 0) fun _ => rfl) (fun cdv A outer s H vs Q E hr hq => ?_), g, F.kp, b⟩
  refine ⟨_, (pss_cons (ps_set (i := 1) sc__law_e_roads.nd rfl (Or.inr rfl) (pe_op op_add pe_int (pe_call G__law_pick (hr.mono (by decide)) (by rfl) g__law_pick kp__law_pick b__law_pick .nil pass0 (pa_cons (pv 0) (pa_cons (pe_ix (k_ixL (K := K) rfl) (pe_lst (pa_cons pe_int (pa_cons pe_int (pa_cons pe_int (pa_cons pe_int (pa_cons pe_int (pa_cons pe_int pa_nil))))))) (pe_call G__law_pick (hr.mono (by decide)) (by rfl) g__law_pick kp__law_pick b__law_pick .nil pass0 (pa_cons (pv 0) (pa_cons pe_int pa_nil))) (fun _ _ => rfl)) pa_nil))))) (pss_cons (ps_set (i := 2) sc__law_e_roads.nd rfl (Or.inl rfl) (pe_call G__law_tree_roads (hr.mono (by decide)) (by rfl) g__law_tree_roads kp__law_tree_roads b__law_tree_roads .nil pass0 (pa_cons (pv 0) (pa_cons (pv 1) pa_nil)))) (pss_cons (ps_set (i := 3) sc__law_e_roads.nd rfl (Or.inl rfl) (pe_lst pa_nil)) (pss_cons (ps_for PassesOwn.never rfl (pi_range1 (by rfl) T.range_ (pa_cons (pe_op op_add pe_int (pe_call G__law_pick (hr.mono (by decide)) (by rfl) g__law_pick kp__law_pick b__law_pick .nil pass0 (pa_cons (pv 0) (pa_cons pe_int pa_nil)))) pa_nil)) (pg_name (i := 4) sc__law_e_roads.nd rfl (Or.inl rfl)) (pss_cons (ps_set (i := 5) sc__law_e_roads.nd rfl (Or.inl rfl) (pe_slice (k_slL (K := K) rfl) (pe_call G__law_shuffled (hr.mono (by decide)) (by rfl) g__law_shuffled kp__law_shuffled b__law_shuffled .nil pass0 (pa_cons (pv 0) (pa_cons (pe_lc (own := [("h", 21)]) (by rfl) sc__law_e_roads.nd (pi_range1 (by rfl) T.range_ (pa_cons (pv 1) pa_nil)) (blkOk_by (own := [("h", 21)]) (N := ["source", "houses", "tree", "sets", "turn", "members", "bare", "couples", "a", "best", "weight", "b", "asked", "right", "handed", "roads", "kind", "at", "most", "wrong", "bent", "h"]) (sc := defScope s__law_e_roads) (by decide +kernel)) (fun _ _ _ _ _ => (pg_name (i := 21) sc__law_e_roads.nd rfl (Or.inl rfl))) (fun _ _ _ _ _ => pts_nil) (fun _ _ _ _ _ => (pe_op op_add (pv 21) pe_int))) pa_nil))) po_none (po_some (pe_op op_add pe_int (pe_call G__law_pick (hr.mono (by decide)) (by rfl) g__law_pick kp__law_pick b__law_pick .nil pass0 (pa_cons (pv 0) (pa_cons pe_int pa_nil))))))) (pss_cons (ps_if (pt_cmpR op_eq (pe_call G__law_pick (hr.mono (by decide)) (by rfl) g__law_pick kp__law_pick b__law_pick .nil pass0 (pa_cons (pv 0) (pa_cons pe_int pa_nil))) pe_int (nomark _)) (pss_one (ps_set (i := 5) sc__law_e_roads.nd rfl (Or.inl rfl) (pe_call G__law_reach (hr.mono (by decide)) (by rfl) g__law_reach kp__law_reach b__law_reach .nil pass0 (pa_cons (pe_slice (k_slL (K := K) rfl) (pe_call G__law_shuffled (hr.mono (by decide)) (by rfl) g__law_shuffled kp__law_shuffled b__law_shuffled .nil pass0 (pa_cons (pv 0) (pa_cons (pv 2) pa_nil))) po_none (po_some (pe_call G__law_pick (hr.mono (by decide)) (by rfl) g__law_pick kp__law_pick b__law_pick .nil pass0 (pa_cons (pv 0) (pa_cons (pv 1) pa_nil))))) (pa_cons (pe_ix (k_ixL (K := K) rfl) (pv 5) pe_int (fun _ _ => rfl)) pa_nil))))) pss_nil) (pss_one (ps_expr (pe_bm PySem.F.plainAttrs_list PySem.F.slot_list_append PySem.F.type_list_append mt_append (pv 3) (pa_cons (pv 5) pa_nil))))))) (pss_cons (ps_set (i := 6) sc__law_e_roads.nd rfl (Or.inr rfl) (pe_lc (own := [("members", 5)]) (by rfl) sc__law_e_roads.nd (k_pil (K := K) rfl (pv 3)) (blkOk_by (own := [("members", 5)]) (N := ["source", "houses", "tree", "sets", "turn", "members", "bare", "couples", "a", "best", "weight", "b", "asked", "right", "handed", "roads", "kind", "at", "most", "wrong", "bent", "h"]) (sc := defScope s__law_e_roads) (by decide +kernel)) (fun _ _ _ _ _ => (pg_name (i := 5) sc__law_e_roads.nd rfl (Or.inr rfl))) (fun _ _ _ _ _ => pts_nil) (fun _ _ _ _ _ => (pe_callB (k_sorted (K := K) rfl) (by rfl) T.sorted_ (by decide +kernel) (pa_cons (pe_lc (own := [("h", 21)]) (by rfl) sc__law_e_roads.nd (pi_range1 (by rfl) T.range_ (pa_cons (pv 1) pa_nil)) (blkOk_by (own := [("h", 21)]) (by rfl)) (fun _ _ _ _ _ => (pg_name (i := 21) sc__law_e_roads.nd rfl (Or.inl rfl))) (fun _ _ _ _ _ => (pts_one (pt_cmpR (k_in (K := K) rfl) (pe_op op_add (pv 21) pe_int) (pv 5) rfl))) (fun _ _ _ _ _ => (pe_op op_add (pv 21) pe_int))) pa_nil))))) (pss_cons (ps_set (i := 7) sc__law_e_roads.nd rfl (Or.inl rfl) (pe_lst pa_nil)) (pss_cons (ps_for PassesOwn.never rfl (pi_range2 (by rfl) T.range_ (pa_cons pe_int (pa_cons (pe_op op_add (pv 1) pe_int) pa_nil))) (pg_name (i := 8) sc__law_e_roads.nd rfl (Or.inr rfl)) (pss_one (ps_set (i := 7) sc__law_e_roads.nd rfl (Or.inl rfl) (pe_op op_cat (pv 7) (pe_lc (own := [("b", 11)]) (by rfl) sc__law_e_roads.nd (pi_range2 (by rfl) T.range_ (pa_cons (pe_op op_add (pv 8) pe_int) (pa_cons (pe_op op_add (pv 1) pe_int) pa_nil))) (blkOk_by (own := [("b", 11)]) (N := ["source", "houses", "tree", "sets", "turn", "members", "bare", "couples", "a", "best", "weight", "b", "asked", "right", "handed", "roads", "kind", "at", "most", "wrong", "bent", "h"]) (sc := defScope s__law_e_roads) (by decide +kernel)) (fun _ _ _ _ _ => (pg_name (i := 11) sc__law_e_roads.nd rfl (Or.inl rfl))) (fun _ _ _ _ _ => pts_nil) (fun _ _ _ _ _ => (pe_tup (pa_cons (pv 8) (pa_cons (pv 11) pa_nil))))))))) (pss_cons (ps_set (i := 9) sc__law_e_roads.nd rfl (Or.inl rfl) (pe_lst pa_nil)) (pss_cons (ps_for PassesOwn.never rfl (pi_range3 (by rfl) T.range_ (pa_cons (pe_callB (k_len (K := K) rfl) (by rfl) T.len_ (by decide +kernel) (pa_cons (pv 3) pa_nil)) (pa_cons (pe_un un_neg pe_int) (pa_cons (pe_un un_neg pe_int) pa_nil)))) (pg_name (i := 10) sc__law_e_roads.nd rfl (Or.inl rfl)) (pss_one (ps_for PassesOwn.never rfl (k_pil (K := K) rfl (pe_call G__law_shuffled (hr.mono (by decide)) (by rfl) g__law_shuffled kp__law_shuffled b__law_shuffled .nil pass0 (pa_cons (pv 0) (pa_cons (pv 7) pa_nil)))) (k_pgt (K := K) (n := 2) rfl (by rfl) (pgs_cons (pg_name (i := 8) sc__law_e_roads.nd rfl (Or.inr rfl)) (pgs_cons (pg_name (i := 11) sc__law_e_roads.nd rfl (Or.inl rfl)) pgs_nil)) (by rfl) (by rfl)) (pss_one (ps_if (PW.pt (pw_and (pt_cmpR op_eq (pe_call G__law_e_weight (hr.mono (by decide)) (by rfl) g__law_e_weight kp__law_e_weight b__law_e_weight .nil pass0 (pa_cons (pv 6) (pa_cons (pv 8) (pa_cons (pv 11) pa_nil)))) (pv 10) (nomark _)) (pw_and1 (pt_cmpR (k_notin (K := K) rfl) (pv 11) (pe_call G__law_reach (hr.mono (by decide)) (by rfl) g__law_reach kp__law_reach b__law_reach .nil pass0 (pa_cons (pv 9) (pa_cons (pv 8) pa_nil))) rfl)))) (pss_one (ps_expr (pe_bm PySem.F.plainAttrs_list PySem.F.slot_list_append PySem.F.type_list_append mt_append (pv 9) (pa_cons (pe_tup (pa_cons (pv 8) (pa_cons (pv 11) pa_nil))) pa_nil)))) pss_nil))))) (pss_cons (ps_set (i := 10) sc__law_e_roads.nd rfl (Or.inl rfl) (pe_callB (k_sum (K := K) rfl rfl) (by rfl) T.sum_ (by decide +kernel) (pa_cons (pe_lc (own := [("a", 8), ("b", 11)]) (by rfl) sc__law_e_roads.nd (k_pil (K := K) rfl (pv 9)) (blkOk_by (own := [("a", 8), ("b", 11)]) (N := ["source", "houses", "tree", "sets", "turn", "members", "bare", "couples", "a", "best", "weight", "b", "asked", "right", "handed", "roads", "kind", "at", "most", "wrong", "bent", "h"]) (sc := defScope s__law_e_roads) (by decide +kernel)) (fun _ _ _ _ _ => (k_pgt (K := K) (n := 2) rfl (by rfl) (pgs_cons (pg_name (i := 8) sc__law_e_roads.nd rfl (Or.inl rfl)) (pgs_cons (pg_name (i := 11) sc__law_e_roads.nd rfl (Or.inl rfl)) pgs_nil)) (by rfl) (by rfl))) (fun _ _ _ _ _ => pts_nil) (fun _ _ _ _ _ => (pe_call G__law_e_weight (hr.mono (by decide)) (by rfl) g__law_e_weight kp__law_e_weight b__law_e_weight .nil pass0 (pa_cons (pv 6) (pa_cons (pv 8) (pa_cons (pv 11) pa_nil)))))) pa_nil))) (pss_cons (ps_set (i := 12) sc__law_e_roads.nd rfl (Or.inl rfl) (pe_callB (k_sum (K := K) rfl rfl) (by rfl) T.sum_ (by decide +kernel) (pa_cons (pe_lc (own := [("members", 5)]) (by rfl) sc__law_e_roads.nd (k_pil (K := K) rfl (pv 6)) (blkOk_by (own := [("members", 5)]) (N := ["source", "houses", "tree", "sets", "turn", "members", "bare", "couples", "a", "best", "weight", "b", "asked", "right", "handed", "roads", "kind", "at", "most", "wrong", "bent", "h"]) (sc := defScope s__law_e_roads) (by decide +kernel)) (fun _ _ _ _ _ => (pg_name (i := 5) sc__law_e_roads.nd rfl (Or.inl rfl))) (fun _ _ _ _ _ => pts_nil) (fun _ _ _ _ _ => (pe_op op_sub (pe_callB (k_len (K := K) rfl) (by rfl) T.len_ (by decide +kernel) (pa_cons (pv 5) pa_nil)) pe_int))) pa_nil))) (pss_cons (ps_set (i := 13) sc__law_e_roads.nd rfl (Or.inl rfl) (pe_ifExp (pt_cmpR op_eq (pv 10) (pv 12) (nomark _)) (pe_tup (pa_cons pe_str (pa_cons (pv 9) pa_nil))) (pe_tup (pa_cons pe_str (pa_cons (pe_callTy (k_tuple (K := K) rfl) (by rfl) T.tuple_ (by decide +kernel) (pa_cons (pv 9) pa_nil)) (pa_cons (pv 10) (pa_cons (pv 12) pa_nil))))))) (pss_cons (ps_setLc (i := 14) (own := [("members", 5)]) (by rfl) sc__law_e_roads.nd rfl rfl (sw_true rfl rfl rfl (by decide +kernel)) (k_pil (K := K) rfl (pv 3)) (blkOk_by (own := [("members", 5)]) (N := ["source", "houses", "tree", "sets", "turn", "members", "bare", "couples", "a", "best", "weight", "b", "asked", "right", "handed", "roads", "kind", "at", "most", "wrong", "bent", "h"]) (sc := defScope s__law_e_roads) (by decide +kernel)) (fun _ _ _ _ _ => (pg_name (i := 5) sc__law_e_roads.nd rfl (Or.inl rfl))) (fun _ _ _ _ _ => pts_nil) (fun _ _ _ _ _ => (pe_op op_cat (pv 5) (pe_slice (k_slL (K := K) rfl) (pv 5) po_none (po_some (pe_call G__law_pick (hr.mono (by decide)) (by rfl) g__law_pick kp__law_pick b__law_pick .nil pass0 (pa_cons (pv 0) (pa_cons pe_int pa_nil)))))))) (pss_cons (ps_if (pt_cmp (pc_notN (pe_call G_judge_roads (hr.mono (by decide)) (by rfl) g_judge_roads kp_judge_roads b_judge_roads .nil pass0 (pa_cons (pv 1) (pa_cons (pv 14) (pa_cons (pv 13) pa_nil))))) rfl) (pss_one (ps_ret pe_bl)) pss_nil) (pss_cons (ps_for PassesOwn.never rfl (pi_range1 (by rfl) T.range_ (pa_cons pe_int pa_nil)) (pg_name (i := 4) sc__law_e_roads.nd rfl (Or.inl rfl)) (pss_cons (ps_set (i := 15) sc__law_e_roads.nd rfl (Or.inl rfl) (pe_callTy (k_list (K := K) rfl) (by rfl) T.list_ (by decide +kernel) (pa_cons (pe_call G__law_shuffled (hr.mono (by decide)) (by rfl) g__law_shuffled kp__law_shuffled b__law_shuffled .nil pass0 (pa_cons (pv 0) (pa_cons (pe_ifExp (pt_cmpR op_eq (pe_call G__law_pick (hr.mono (by decide)) (by rfl) g__law_pick kp__law_pick b__law_pick .nil pass0 (pa_cons (pv 0) (pa_cons pe_int pa_nil))) pe_int (nomark _)) (pv 2) (pv 9)) pa_nil))) pa_nil))) (pss_cons (ps_set (i := 16) sc__law_e_roads.nd rfl (Or.inl rfl) (pe_call G__law_pick (hr.mono (by decide)) (by rfl) g__law_pick kp__law_pick b__law_pick .nil pass0 (pa_cons (pv 0) (pa_cons pe_int pa_nil)))) (pss_cons (ps_set (i := 17) sc__law_e_roads.nd rfl (Or.inl rfl) (pe_call G__law_pick (hr.mono (by decide)) (by rfl) g__law_pick kp__law_pick b__law_pick .nil pass0 (pa_cons (pv 0) (pa_cons (pe_callB (call_max2 rfl) (by rfl) T.max_ (by decide +kernel) (pa_cons pe_int (pa_cons (pe_callB (k_len (K := K) rfl) (by rfl) T.len_ (by decide +kernel) (pa_cons (pv 15) pa_nil)) pa_nil))) pa_nil)))) (pss_cons (ps_if (pt_cmpR op_eq (pe_callB (k_len (K := K) rfl) (by rfl) T.len_ (by decide +kernel) (pa_cons (pv 15) pa_nil)) pe_int (nomark _)) (pss_one (ps_set (i := 15) sc__law_e_roads.nd rfl (Or.inl rfl) (pe_ix (k_ixL (K := K) rfl) (pe_lst (pa_cons (pe_lst pa_nil) (pa_cons (pe_lst (pa_cons (pe_tup (pa_cons pe_int (pa_cons pe_int pa_nil))) pa_nil)) (pa_cons (pe_lst (pa_cons (pe_tup (pa_cons pe_int (pa_cons pe_int pa_nil))) pa_nil)) (pa_cons (pe_lst (pa_cons (pe_tup (pa_cons pe_int (pa_cons pe_int pa_nil))) pa_nil)) pa_nil))))) (pe_call G__law_pick (hr.mono (by decide)) (by rfl) g__law_pick kp__law_pick b__law_pick .nil pass0 (pa_cons (pv 0) (pa_cons pe_int pa_nil))) (fun _ _ => rfl)))) (pss_one (ps_if (pt_cmpR op_eq (pv 16) pe_int (nomark _)) (pss_one (ps_asg (pe_tup (pa_cons (pe_call G__law_pick (hr.mono (by decide)) (by rfl) g__law_pick kp__law_pick b__law_pick .nil pass0 (pa_cons (pv 0) (pa_cons (pe_op op_add (pv 1) pe_int) pa_nil))) (pa_cons (pe_op op_add pe_int (pe_call G__law_pick (hr.mono (by decide)) (by rfl) g__law_pick kp__law_pick b__law_pick .nil pass0 (pa_cons (pv 0) (pa_cons (pe_op op_add (pv 1) pe_int) pa_nil)))) pa_nil))) (pg_sub (pv 15) (pv 17) set_list))) (pss_one (ps_if (pt_cmpR op_eq (pv 16) pe_int (nomark _)) (pss_one (ps_set (i := 15) sc__law_e_roads.nd rfl (Or.inl rfl) (pe_slice (k_slL (K := K) rfl) (pv 15) po_none (po_some (pv 17))))) (pss_one (ps_if (PW.pt (pw_and (pt_cmpR op_eq (pv 16) pe_int (nomark _)) (pw_and1 (pt_cmpR op_gt (pe_callB (k_len (K := K) rfl) (by rfl) T.len_ (by decide +kernel) (pa_cons (pv 7) pa_nil)) pe_int (nomark _))))) (pss_one (ps_set (i := 15) sc__law_e_roads.nd rfl (Or.inl rfl) (pe_op op_cat (pv 15) (pe_lst (pa_cons (pe_ix (k_ixL (K := K) rfl) (pv 7) (pe_call G__law_pick (hr.mono (by decide)) (by rfl) g__law_pick kp__law_pick b__law_pick .nil pass0 (pa_cons (pv 0) (pa_cons (pe_callB (k_len (K := K) rfl) (by rfl) T.len_ (by decide +kernel) (pa_cons (pv 7) pa_nil)) pa_nil))) (fun _ _ => rfl)) pa_nil))))) (pss_one (ps_if (pt_cmpR op_eq (pv 16) pe_int (nomark _)) (pss_one (ps_asg (pe_ix (k_ixL (K := K) rfl) (pe_lst (pa_cons (pe_tup (pa_cons (pe_ix (k_ixT (K := K) rfl) (pe_ix (k_ixL (K := K) rfl) (pv 15) (pv 17) (fun _ _ => rfl)) pe_int (fun _ _ => rfl)) (pa_cons (pe_ix (k_ixT (K := K) rfl) (pe_ix (k_ixL (K := K) rfl) (pv 15) (pv 17) (fun _ _ => rfl)) pe_int (fun _ _ => rfl)) pa_nil))) (pa_cons pe_non (pa_cons (pe_callTy (k_list (K := K) rfl) (by rfl) T.list_ (by decide +kernel) (pa_cons (pe_ix (k_ixL (K := K) rfl) (pv 15) (pv 17) (fun _ _ => rfl)) pa_nil)) (pa_cons (pe_tup (pa_cons pe_bl (pa_cons pe_int pa_nil))) (pa_cons (pe_tup (pa_cons pe_int (pa_cons pe_int (pa_cons pe_int pa_nil)))) pa_nil)))))) (pe_call G__law_pick (hr.mono (by decide)) (by rfl) g__law_pick kp__law_pick b__law_pick .nil pass0 (pa_cons (pv 0) (pa_cons pe_int pa_nil))) (fun _ _ => rfl)) (pg_sub (pv 15) (pv 17) set_list))) pss_nil))))))))) (pss_cons (ps_set (i := 18) sc__law_e_roads.nd rfl (Or.inl rfl) (pe_op op_add (pv 10) (pe_ifExp (pt_cmpR op_eq (pv 16) pe_int (nomark _)) pe_int pe_int))) (pss_cons (ps_set (i := 19) sc__law_e_roads.nd rfl (Or.inl rfl) (pe_lst (pa_cons (pe_tup (pa_cons pe_str (pa_cons (pv 15) pa_nil))) (pa_cons (pe_tup (pa_cons pe_str (pa_cons (pv 15) (pa_cons (pv 18) (pa_cons (pe_op op_add (pv 12) (pe_ifExp (pt_cmpR op_eq (pv 16) pe_int (nomark _)) pe_int pe_int)) pa_nil))))) (pa_cons (pe_tup (pa_cons pe_str (pa_cons (pv 15) (pa_cons (pv 18) pa_nil)))) (pa_cons (pe_tup (pa_cons pe_str (pa_cons (pv 15) (pa_cons pe_int pa_nil)))) (pa_cons (pe_callTy (k_list (K := K) rfl) (by rfl) T.list_ (by decide +kernel) (pa_cons (pv 13) pa_nil)) (pa_cons pe_non (pa_cons (pe_tup (pa_cons pe_str (pa_cons (pv 15) (pa_cons pe_non (pa_cons (pv 12) pa_nil))))) (pa_cons (pe_tup (pa_cons (pe_ix (k_ixT (K := K) rfl) (pv 13) pe_int (fun _ _ => rfl)) pa_nil)) pa_nil)))))))))) (pss_cons (ps_set (i := 20) sc__law_e_roads.nd rfl (Or.inl rfl) (pe_ix (k_ixL (K := K) rfl) (pv 19) (pe_ifExp (pt_cmpR op_lt (pv 16) pe_int (nomark _)) (pe_call G__law_pick (hr.mono (by decide)) (by rfl) g__law_pick kp__law_pick b__law_pick .nil pass0 (pa_cons (pv 0) (pa_cons pe_int pa_nil))) (pe_call G__law_pick (hr.mono (by decide)) (by rfl) g__law_pick kp__law_pick b__law_pick .nil pass0 (pa_cons (pv 0) (pa_cons pe_int pa_nil)))) (fun _ _ => rfl))) (pss_cons (ps_if (PW.pt (pw_and (pt_cmpR op_eq (pe_call G__law_pick (hr.mono (by decide)) (by rfl) g__law_pick kp__law_pick b__law_pick .nil pass0 (pa_cons (pv 0) (pa_cons pe_int pa_nil))) pe_int (nomark _)) (pw_and (pt_val (pe_callB (k_isi (K := K) rfl) (by rfl) T.isinstance_ (by decide +kernel) (pa_cons (pv 20) (pa_cons (pe_bltn (v := .ty "tuple") (by rfl) T.tuple_ (by decide +kernel) rfl) pa_nil)))) (pw_and (pt_cmpR op_eq (pe_callB (k_len (K := K) rfl) (by rfl) T.len_ (by decide +kernel) (pa_cons (pv 20) pa_nil)) pe_int (nomark _)) (pw_and1 (pt_val (pe_call G__law_e_is_roads (hr.mono (by decide)) (by rfl) g__law_e_is_roads kp__law_e_is_roads b__law_e_is_roads .nil pass0 (pa_cons (pv 15) pa_nil)))))))) (pss_one (ps_set (i := 20) sc__law_e_roads.nd rfl (Or.inl rfl) (pe_tup (pa_cons (pe_ix (k_ixT (K := K) rfl) (pv 20) pe_int (fun _ _ => rfl)) (pa_cons (pv 15) (pa_cons (pe_callB (k_sum (K := K) rfl rfl) (by rfl) T.sum_ (by decide +kernel) (pa_cons (pe_lc (own := [("a", 8), ("b", 11)]) (by rfl) sc__law_e_roads.nd (k_pil (K := K) rfl (pv 15)) (blkOk_by (own := [("a", 8), ("b", 11)]) (N := ["source", "houses", "tree", "sets", "turn", "members", "bare", "couples", "a", "best", "weight", "b", "asked", "right", "handed", "roads", "kind", "at", "most", "wrong", "bent", "h"]) (sc := defScope s__law_e_roads) (by decide +kernel)) (fun _ _ _ _ _ => (k_pgt (K := K) (n := 2) rfl (by rfl) (pgs_cons (pg_name (i := 8) sc__law_e_roads.nd rfl (Or.inl rfl)) (pgs_cons (pg_name (i := 11) sc__law_e_roads.nd rfl (Or.inl rfl)) pgs_nil)) (by rfl) (by rfl))) (fun _ _ _ _ _ => pts_nil) (fun _ _ _ _ _ => (pe_call G__law_e_weight (hr.mono (by decide)) (by rfl) g__law_e_weight kp__law_e_weight b__law_e_weight .nil pass0 (pa_cons (pv 6) (pa_cons (pv 8) (pa_cons (pv 11) pa_nil)))))) pa_nil)) (pa_cons (pv 12) pa_nil))))))) pss_nil) (pss_one (ps_if (pt_not (pt_val (pe_call G__law_same (hr.mono (by decide)) (by rfl) g__law_same kp__law_same b__law_same .nil pass0 (pa_cons (pe_call G_judge_roads (hr.mono (by decide)) (by rfl) g_judge_roads kp_judge_roads b_judge_roads .nil pass0 (pa_cons (pv 1) (pa_cons (pv 14) (pa_cons (pv 20) pa_nil)))) (pa_cons (pe_call G__law_e_roads_due (hr.mono (by decide)) (by rfl) g__law_e_roads_due kp__law_e_roads_due b__law_e_roads_due .nil pass0 (pa_cons (pv 1) (pa_cons (pv 6) (pa_cons (pv 20) pa_nil)))) pa_nil))))) (pss_one (ps_ret pe_bl)) pss_nil))))))))))) (pss_one (ps_ret pe_bl))))))))))))))))), ?_⟩
  refine gsp_body (n := 0) (m := 21) (fun _ => rfl) rfl (fun x _ => ?_) vs H Q E hq
  -- houses
  with_reducible refine gs_seq ?_
  with_reducible refine gs_set ?_
  with_reducible refine ge_fz ?_
  refine GE.mono (P := fun d M' => PreM [.src] M' ∧ ∃ h : Int, 1 ≤ h ∧ h ≤ 12 ∧ d = .dat (.int h)) ?_ ?_
  · repeat walk_at "h"
    refine ⟨[_, _, _, _, _, _], rfl, (show 6 ≤ 100000 by decide), ?_⟩
    repeat walk_at "h"
    refine ⟨0, _, 6, rfl, rfl, .cons rfl .nil, ⟨by decide, by decide⟩, ?_⟩
    rintro _ ⟨y, y0, y1, rfl⟩
    have y1 : y < 6 := y1
    refine rp_d ?_
    obtain ⟨n, hn, an⟩ : ∃ n : Int, (1 ≤ n ∧ n ≤ 11 + 1) ∧ atI [PyData.int 4, PyData.int 6, PyData.int 6, PyData.int 6, PyData.int 6, PyData.int 12] y = some (.int n) := by
      have : y = 0 ∨ y = 1 ∨ y = 2 ∨ y = 3 ∨ y = 4 ∨ y = 5 := by omega
      rcases this with e | e | e | e | e | e <;> subst e <;> exact ⟨_, by decide, rfl⟩
    refine ⟨_, ov_ixL rfl an, ?_⟩
    repeat walk_at "h"
    refine ⟨0, _, n, rfl, rfl, .cons rfl .nil, ⟨by omega, by omega⟩, ?_⟩
    rintro _ ⟨x, x0, x1, rfl⟩
    have x1 : x < n := x1
    refine rp_d ?_
    repeat walk_at "h"
    refine ⟨PreM.app _ _, _, ?_, ?_, rfl⟩ <;> omega
  rintro _ M' ⟨pm, h, h1, h2, rfl⟩
  refine ⟨pm, _, rfl, ?_⟩
  clear pm M'
  -- tree
  with_reducible refine gs_seq ?_
  with_reducible refine gs_set ?_
  with_reducible refine ge_fz ?_
  repeat walk_at "h"
  refine ⟨0, _, h, rfl, rfl, .cons rfl .nil, ⟨h1, h2⟩, ?_⟩
  rintro _ ⟨tr, rfl, ltr, etr⟩
  have ltr : (tr.length : Int) = h - 1 := ltr
  have etr : ∀ r ∈ tr, r.1 ∈ upto h ∧ r.2 ∈ upto h := etr
  refine rp_n (fz_new ?_)
  -- sets
  with_reducible refine gs_seq ?_
  with_reducible refine gs_set ?_
  with_reducible refine ge_lst ?_
  repeat walk_at "h"
  refine ⟨[], rfl, Nat.zero_le _, ?_⟩
  refine gs_cut (fun Γ M => ∃ (s0 : List (List Int)) (o4 o5 : Option D), Γ = [some (.ref 0), some (.dat (.int h)), some (.dat (.list (tr.map prP))), some (.ref 1), o4, o5, none, none, none, none, none, none, none, none, none, none, none, none, none, none, none, none] ∧ M = [.src, .lst (s0.map dI)] ∧ s0.length ≤ 6 ∧ ∀ m ∈ s0, Good h m) ?_ ?_
  · refine gs_for [4] ?_
    repeat walk_at "h"
    refine ⟨0, _, 6, rfl, rfl, .cons rfl .nil, ⟨by decide, by decide⟩, ?_⟩
    rintro _ ⟨nt, n0, n1, rfl⟩
    have n1 : nt < 6 := n1
    refine rp_d ?_
    repeat walk_at "h"
    refine ⟨by omega, ?_⟩
    refine ⟨fun i Γ M => ∃ (s0 : List (List Int)) (o4 o5 : Option D), Γ = [some (.ref 0), some (.dat (.int h)), some (.dat (.list (tr.map prP))), some (.ref 1), o4, o5, none, none, none, none, none, none, none, none, none, none, none, none, none, none, none, none] ∧ M = [.src, .lst (s0.map dI)] ∧ s0.length = i ∧ ∀ m ∈ s0, Good h m, ⟨[], _, _, rfl, rfl, rfl, fun m hm => by cases hm⟩, fun _ _ _ _ => trivial, ?_, ?_⟩
    · rintro i d Γ M hd ⟨s0, o4, o5, rfl, rfl, hl, hg⟩
      obtain ⟨hi, rfl⟩ := rng_get hd
      repeat walk_at "t"
      refine gs_let [4] ?_
      with_reducible refine gs_seq ?_
      with_reducible refine gs_set ?_
      with_reducible refine ge_fz ?_
      with_reducible refine ge_slL ?_
      with_reducible refine ge_callS ?_
      with_reducible refine ga_cons ?_
      repeat walk_at "h"
      with_reducible refine ge_lcMap (List.range h.toNat) (fun (i : Nat) => PyData.int (0 + (i : Int))) (fun (i : Nat) => PyData.int (0 + (i : Int) + 1)) ?_
      repeat walk_at "h"
      refine ⟨by omega, trivial, rfl, by rw [List.length_range]; omega, fun i _ => ?_, ?_⟩
      · repeat walk_at "h"
        exact ⟨PreM.rf _, rfl⟩
      rw [upto_is]
      repeat walk_at "h"
      refine ⟨0, _, (upto h).map .int, rfl, rfl, .cons rfl .nil, by rw [List.length_map, len_upto]; omega, ?_⟩
      rintro _ ⟨es, pm, rfl⟩
      obtain ⟨os, po, rfl⟩ := perm_of_map pm rfl
      refine rp_n ?_
      repeat walk_at "h"
      refine ⟨0, _, 3, rfl, rfl, .cons rfl .nil, ⟨by decide, by decide⟩, ?_⟩
      rintro _ ⟨k, k0, k1, rfl⟩
      have k1 : k < 3 := k1
      refine rp_d ?_
      repeat walk_at "h"
      have gm : Good h (os.take (1 + k).toNat) := by
        have hol : os.length = h.toNat := by rw [po.length_eq, len_upto]
        refine ⟨(po.nodup_iff.2 (nd_upto h)).sublist (List.take_sublist _ _), fun z => ?_, fun x hx => po.mem_iff.1 (List.mem_of_mem_take hx)⟩
        have := congrArg List.length z
        rw [List.length_take, hol] at this
        simp only [List.length_nil] at this
        omega
      have ecut : GL.cutD (os.map PyData.int) none (some (1 + k)) = (os.take (1 + k).toNat).map .int := by rw [cut_pre _ (by omega), List.map_take]
      rw [ecut]
      generalize os.take (1 + k).toNat = m0 at gm
      refine ⟨PreM.app _ [_, _, _], _, ⟨(show 2 ≤ 4 by decide), _, rfl, rfl⟩, ?_⟩
      refine gs_cut (fun Γ M => ∃ (m : List Int) (o4 : Option D), Γ = [some (.ref 0), some (.dat (.int h)), some (.dat (.list (tr.map prP))), some (.ref 1), o4, some (.dat (dI m)), none, none, none, none, none, none, none, none, none, none, none, none, none, none, none, none] ∧ M = [.src, .lst (s0.map dI)] ∧ Good h m) ?_ ?_
      · repeat walk_at "h"
        refine ⟨0, _, 2, rfl, rfl, .cons rfl .nil, ⟨by decide, by decide⟩, ?_⟩
        rintro _ ⟨k, k0, k1, rfl⟩
        refine rp_d ?_
        repeat walk_at "h"
        refine ⟨fun _ => ?_, fun _ => ?_⟩
        · with_reducible refine gs_set ?_
          with_reducible refine ge_fz ?_
          repeat walk_at "h"
          refine ⟨0, _, tr.map prP, rfl, rfl, .cons rfl .nil, (by rw [List.length_map]; omega), ?_⟩
          rintro _ ⟨es, pm, rfl⟩
          obtain ⟨ts, pt, rfl⟩ := perm_of_map pm rfl
          refine rp_n ?_
          repeat walk_at "h"
          refine ⟨0, _, h, rfl, rfl, .cons rfl .nil, ⟨by omega, by omega⟩, ?_⟩
          rintro _ ⟨k, k0, k1, rfl⟩
          refine rp_d ?_
          repeat walk_at "h"
          have ecut : GL.cutD (ts.map prP) none (some k) = (ts.take k.toNat).map prP := by rw [cut_pre _ k0, List.map_take]
          rw [ecut]
          have hts : (ts.take k.toNat).length ≤ 40 := by
            have := pt.length_eq
            rw [List.length_take]; omega
          have ets : ∀ r ∈ ts.take k.toNat, r.1 ∈ upto h ∧ r.2 ∈ upto h := fun r hr => etr r (pt.mem_iff.1 (List.mem_of_mem_take hr))
          generalize ts.take k.toNat = us at hts ets
          obtain ⟨y, m1, rfl⟩ : ∃ y m1, m0 = y :: m1 := by
            cases m0 with
            | nil => exact absurd rfl gm.2.1
            | cons y m1 => exact ⟨y, m1, rfl⟩
          repeat walk_at "h"
          refine ⟨(us, y), .cons rfl (.cons rfl .nil), hts, ?_⟩
          rintro _ ⟨ms, rfl, mn, mc⟩
          refine rp_n ?_
          refine ⟨PreM.app _ [_, _, _], _, ⟨(show 2 ≤ 4 by decide), _, rfl, rfl⟩, ?_⟩
          refine ⟨ms, _, rfl, rfl, mn, List.ne_nil_of_mem ((mc y).2 (.refl _ _)), fun x hx => ?_⟩
          rcases Conn.ends (S := fun x => x ∈ upto h) ets ((mc x).1 hx) with e | e
          · rw [← e]; exact gm.2.2 y List.mem_cons_self
          · exact e.2
        · repeat walk_at "h"
          exact gm
      · rintro Γ M ⟨m, o4, rfl, rfl, gm⟩
        repeat walk_at "h"
        refine ⟨(by rw [List.length_map]; omega), ?_⟩
        refine ⟨[.src, .lst (s0.map dI ++ [dI m])], [], rfl, rfl, Nat.le_refl _, s0 ++ [m], _, _, rfl, ?_, ?_, fun x hx => ?_⟩
        · rw [List.map_append] <;> rfl
        · rw [List.length_append, hl] <;> rfl
        · rcases List.mem_append.1 hx with hx | hx
          · exact hg x hx
          · rw [List.mem_singleton.1 hx]; exact gm
    · rintro Γ M ⟨s0, o4, o5, rfl, rfl, hl, hg⟩
      refine ⟨s0, _, _, rfl, rfl, ?_, hg⟩
      rw [hl]
      unfold rngD
      rw [List.length_map, List.length_range]
      omega
  rintro Γ M ⟨s0, o4, o5, rfl, rfl, hl0, hg0⟩
  refine gs_wipe [4, 5] ?_
  refine gs_freeze 1 (ds := s0.map dI) rfl ?_
  -- bare
  refine gs_cut (fun Γ M => ∃ (ss : List (List Int)), Γ = [some (.ref 0), some (.dat (.int h)), some (.dat (.list (tr.map prP))), some (.dat (.list (s0.map dI))), none, none, some (.dat (.list (ss.map dI))), none, none, none, none, none, none, none, none, none, none, none, none, none, none, none] ∧ M = [.src, .dead] ∧ ss = s0.map (bare h)) ?_ ?_
  · with_reducible refine gs_set ?_
    with_reducible refine ge_fz ?_
    with_reducible refine ge_lcMap s0 dI (fun m => dI (bare h m)) ?_
    with_reducible refine gi_list ?_
    repeat walk_at "h"
    refine ⟨rfl, rfl, by omega, fun m hmm => ?_, ?_⟩
    · repeat walk_at "h"
      with_reducible refine ge_lcFilt (List.range h.toNat) (fun (i : Nat) => PyData.int (0 + (i : Int))) (fun (i : Nat) => decide ((0 : Int) + (i : Int) + 1 ∈ m)) (fun (i : Nat) => PyData.int (0 + (i : Int) + 1)) ?_
      repeat walk_at "h"
      refine ⟨by omega, trivial, rfl, by rw [List.length_range]; omega, fun i _ => ?_, ?_⟩
      · repeat walk_at "h"
        refine ⟨rfl, PreM.rf _, fun _ => ?_⟩
        repeat walk_at "h"
        exact ⟨PreM.rf _, rfl⟩
      repeat walk_at "h"
      have eb : ((List.range h.toNat).filter fun (i : Nat) => decide ((0 : Int) + (i : Int) + 1 ∈ m)).map (fun (i : Nat) => (0 : Int) + (i : Int) + 1) = bare h m := by
        unfold bare upto
        rw [List.filter_map]
        simp only [Int.zero_add]
        rfl
      refine cg_sorted (ns := bare h m) ?_ ?_ fun ms pm pw => ?_
      · rw [← eb]
        show some _ = some _
        rw [List.map_map] <;> rfl
      · have := ((hg0 m hmm).bare).len
        omega
      have e : ms = bare h m := by
        refine asc_uniq ?_ (asc_bare h m) fun k => pm.mem_iff
        have nd : ms.Nodup := pm.nodup_iff.2 ((hg0 m hmm).bare).1
        exact (pw.and nd).imp fun ⟨z1, z2⟩ => by omega
      subst e
      refine ⟨PreM.app _ [_, _], Nat.le_succ _, _, rfl, rfl⟩
    refine fz_new ⟨s0.map (bare h), ?_, rfl, rfl⟩
    rw [List.map_map] <;> rfl
  rintro Γ M ⟨ss, rfl, rfl, ess⟩
  have hls : ss.length ≤ 6 := by rw [ess, List.length_map]; exact hl0
  have hgs : ∀ m ∈ ss, Good h m := fun m hm => by
    rw [ess] at hm
    obtain ⟨x, hx, rfl⟩ := List.mem_map.1 hm
    exact (hg0 x hx).bare
  -- couples
  with_reducible refine gs_seq ?_
  with_reducible refine gs_set ?_
  with_reducible refine ge_fz ?_
  with_reducible refine ge_lst ?_
  repeat walk_at "h"
  refine ⟨[], rfl, Nat.zero_le _, fz_new ?_⟩
  refine gs_cut (fun Γ M => ∃ (cs : List Road) (o8 : Option D), Γ = [some (.ref 0), some (.dat (.int h)), some (.dat (.list (tr.map prP))), some (.dat (.list (s0.map dI))), none, none, some (.dat (.list (ss.map dI))), some (.dat (.list (cs.map prP))), o8, none, none, none, none, none, none, none, none, none, none, none, none, none] ∧ M = [.src, .dead] ∧ cs.length ≤ 144 ∧ ∀ a b, (a, b) ∈ cs ↔ 1 ≤ a ∧ a < b ∧ b ≤ h) ?_ ?_
  · refine gs_for [8] ?_
    repeat walk_at "h"
    refine ⟨by omega, ?_⟩
    refine ⟨fun i Γ M => ∃ (cs : List Road) (o8 : Option D), Γ = [some (.ref 0), some (.dat (.int h)), some (.dat (.list (tr.map prP))), some (.dat (.list (s0.map dI))), none, none, some (.dat (.list (ss.map dI))), some (.dat (.list (cs.map prP))), o8, none, none, none, none, none, none, none, none, none, none, none, none, none] ∧ M = [.src, .dead] ∧ cs.length ≤ 12 * i ∧ ∀ a b, (a, b) ∈ cs ↔ 1 ≤ a ∧ a < 1 + (i : Int) ∧ a < b ∧ b ≤ h, ⟨[], _, rfl, rfl, Nat.le_refl _, fun a b => ⟨fun z => (by cases z), fun z => (by omega)⟩⟩, fun _ _ _ _ => trivial, ?_, ?_⟩
    · rintro i d Γ M hd ⟨cs, o8, rfl, rfl, hl, hc⟩
      obtain ⟨hi, rfl⟩ := rng_get hd
      have hi : (i : Int) < h := by omega
      repeat walk_at "t"
      with_reducible refine gs_set ?_
      with_reducible refine ge_fz ?_
      with_reducible refine ge_cat ?_
      repeat walk_at "h"
      with_reducible refine ge_lcMap (List.range (h + 1 - (1 + (i : Int) + 1)).toNat) (fun (k : Nat) => PyData.int (1 + (i : Int) + 1 + (k : Int))) (fun (k : Nat) => prP (1 + (i : Int), 1 + (i : Int) + 1 + (k : Int))) ?_
      repeat walk_at "h"
      refine ⟨by omega, trivial, rfl, by rw [List.length_range]; omega, fun k _ => ?_, ?_⟩
      · repeat walk_at "h"
        exact ⟨PreM.rf _, rfl⟩
      refine ⟨cs.map prP, _, rfl, rfl, ?_, ?_⟩
      · rw [List.length_map, List.length_map, List.length_range]; omega
      refine ⟨PreM.app _ [_, _], _, ⟨(show 2 ≤ 3 by decide), _, rfl, rfl⟩, ?_⟩
      refine ⟨cs ++ (List.range (h + 1 - (1 + (i : Int) + 1)).toNat).map fun (k : Nat) => ((1 : Int) + (i : Int), (1 : Int) + (i : Int) + 1 + (k : Int)), some (.dat (.int (1 + (i : Int)))), ?_, rfl, ?_, fun a b => ?_⟩
      · rw [List.map_append, List.map_map] <;> rfl
      · rw [List.length_append, List.length_map, List.length_range]; omega
      · rw [List.mem_append, hc, List.mem_map]
        constructor
        · rintro (z | ⟨k, hk, e⟩)
          · omega
          · have hk := List.mem_range.1 hk
            cases e
            omega
        · intro z
          by_cases e : a < 1 + (i : Int)
          · exact .inl (by omega)
          · refine .inr ⟨(b - a - 1).toNat, List.mem_range.2 (by omega), ?_⟩
            have e1 : (1 : Int) + i = a := by omega
            have e2 : (1 : Int) + i + 1 + ((b - a - 1).toNat : Int) = b := by omega
            rw [e2, e1]
    · rintro Γ M ⟨cs, o8, rfl, rfl, hl, hc⟩
      unfold rngD at hl hc
      rw [List.length_map, List.length_range] at hl hc
      exact ⟨cs, _, rfl, rfl, by omega, fun a b => by rw [hc]; constructor <;> intro z <;> omega⟩
  rintro Γ M ⟨cs, o8, rfl, rfl, hlc, hcs⟩
  refine gs_wipe [8] ?_
  -- best
  with_reducible refine gs_seq ?_
  with_reducible refine gs_set ?_
  with_reducible refine ge_lst ?_
  repeat walk_at "h"
  refine ⟨[], rfl, Nat.zero_le _, ?_⟩
  refine gs_cut (fun Γ M => ∃ (bs : List Road) (o8 o10 o11 : Option D), Γ = [some (.ref 0), some (.dat (.int h)), some (.dat (.list (tr.map prP))), some (.dat (.list (s0.map dI))), none, none, some (.dat (.list (ss.map dI))), some (.dat (.list (cs.map prP))), o8, some (.ref 2), o10, o11, none, none, none, none, none, none, none, none, none, none] ∧ M = [.src, .dead, .lst (bs.map prP)] ∧ Kr h ss (-1) (fun _ _ => False) bs) ?_ ?_
  · refine gs_for [10] ?_
    repeat walk_at "h"
    rw [List.length_map, show s0.length = ss.length by rw [ess, List.length_map]]
    have hrg : RgC (ss.length : Int) (-1) (-1) ((ss.length : Int) - -1).toNat := RgC.neg (by omega) (by omega) (by decide) (by decide)
    have en : ((ss.length : Int) - -1).toNat = ss.length + 1 := by omega
    rw [en] at hrg
    refine ge_un (f := fun i => -i) rfl ?_
    repeat walk_at "h"
    refine ge_un (f := fun i => -i) rfl ?_
    repeat walk_at "h"
    refine ⟨(ss.length : Int), -1, -1, ss.length + 1, rfl, hrg, ?_⟩
    refine ⟨fun i Γ M => ∃ (bs : List Road) (o8 o10 o11 : Option D), Γ = [some (.ref 0), some (.dat (.int h)), some (.dat (.list (tr.map prP))), some (.dat (.list (s0.map dI))), none, none, some (.dat (.list (ss.map dI))), some (.dat (.list (cs.map prP))), o8, some (.ref 2), o10, o11, none, none, none, none, none, none, none, none, none, none] ∧ M = [.src, .dead, .lst (bs.map prP)] ∧ Kr h ss ((ss.length : Int) - i) (fun _ _ => False) bs, ⟨[], _, _, _, rfl, rfl, ?_⟩, fun _ _ _ _ => trivial, ?_, ?_⟩
    · have := Kr.init h ss
      rw [show (ss.length : Int) - ((0 : Nat) : Int) = ss.length by omega]
      exact this
    · rintro i d Γ M hd ⟨bs, o8, o10, o11, rfl, rfl, kr⟩
      obtain ⟨hi, rfl⟩ := rngC_get hd
      repeat walk_at "t"
      obtain ⟨W, eW⟩ : ∃ W : Int, (ss.length : Int) - i = W := ⟨_, rfl⟩
      rw [show (ss.length : Int) + (i : Int) * -1 = W by omega]
      rw [eW] at kr
      refine gs_let [8, 11] ?_
      refine gs_for [8, 11] ?_
      repeat walk_at "h"
      refine ⟨0, _, cs.map prP, rfl, rfl, .cons rfl .nil, (by rw [List.length_map]; omega), ?_⟩
      rintro _ ⟨es, pm, rfl⟩
      obtain ⟨qs, pq, rfl⟩ := perm_of_map pm rfl
      refine rp_n ?_
      repeat walk_at "h"
      refine ⟨fun j Γ M => ∃ (bs : List Road) (o8 o11 : Option D), Γ = [some (.ref 0), some (.dat (.int h)), some (.dat (.list (tr.map prP))), some (.dat (.list (s0.map dI))), none, none, some (.dat (.list (ss.map dI))), some (.dat (.list (cs.map prP))), o8, some (.ref 2), some (.dat (.int W)), o11, none, none, none, none, none, none, none, none, none, none] ∧
        M = [.src, .dead, .lst (bs.map prP), .lst (qs.map prP)] ∧ Kr h ss W (fun a b => (a, b) ∈ qs.take j) bs, ⟨bs, _, _, rfl, rfl, kr.skip (a := 0) (b := 0) (fun x y z => by cases z) (.inr (.refl _ _))⟩, ?_, ?_, ?_⟩
      · rintro j Γ M ⟨bs, o8, o11, rfl, rfl, kr⟩
        rfl
      · rintro j d Γ M hd ⟨bs, o8, o11, rfl, rfl, kr⟩
        obtain ⟨q, hq, rfl⟩ := mp_at hd
        have hq1 := (hcs q.1 q.2).1 (pq.mem_iff.1 (List.mem_of_getElem? hq))
        have hdn : ∀ x y, (x, y) ∈ qs.take (j + 1) → (x, y) ∈ qs.take j ∨ (x = q.1 ∧ y = q.2) := fun x y z => by
          rw [tk1 hq] at z
          rcases List.mem_append.1 z with z | z
          · exact .inl z
          · have := List.mem_singleton.1 z
            exact .inr ⟨by rw [← this], by rw [← this]⟩
        have hsh := kr.short h1
        repeat walk_at "t"
        refine gs_let [] ?_
        repeat walk_at "h"
        refine ⟨(ss, q.1, q.2), .cons rfl (.cons rfl (.cons rfl .nil)), (show ss.length < 1000 by omega), ?_⟩
        rintro _ rfl
        refine rp_d ?_
        repeat walk_at "h"
        refine ⟨fun y1 => ?_, fun y1 => ?_⟩
        · have y1 : wt ss q.1 q.2 = W := of_decide_eq_true y1
          repeat walk_at "h"
          refine ⟨(bs, q.1), .cons rfl (.cons rfl .nil), (show bs.length ≤ 40 by omega), ?_⟩
          rintro _ ⟨ms, rfl, _, mc⟩
          refine rp_n ?_
          repeat walk_at "h"
          refine ⟨fun y2 => ?_, fun y2 => ?_⟩
          · have y2 : ¬ Conn bs q.1 q.2 := fun z => by
              rw [decide_eq_true ((mc q.2).2 z)] at y2
              cases y2
            repeat walk_at "h"
            refine ⟨(by rw [List.length_map]; omega), [.src, .dead, .lst (bs.map prP ++ [prP q]), .lst (qs.map prP)], _, rfl, rfl, Nat.le_refl _, bs ++ [(q.1, q.2)], _, _, rfl, ?_, kr.take hdn y1 y2 hq1⟩
            rw [List.map_append] <;> rfl
          · have y2 : Conn bs q.1 q.2 := (mc q.2).1 (by simpa using y2)
            with_reducible refine gs_next ?_
            exact ⟨[.src, .dead, .lst (bs.map prP), .lst (qs.map prP)], _, rfl, rfl, Nat.le_refl _, bs, _, _, rfl, rfl, kr.skip hdn (.inr y2)⟩
        · have y1 : wt ss q.1 q.2 ≠ W := of_decide_eq_false y1
          refine ⟨fun z => (by cases z), fun _ => ?_⟩
          with_reducible refine gs_next ?_
          exact ⟨[.src, .dead, .lst (bs.map prP), .lst (qs.map prP)], [], rfl, rfl, Nat.le_refl _, bs, _, _, rfl, rfl, kr.skip hdn (.inl y1)⟩
      · rintro Γ M ⟨bs, o8, o11, rfl, rfl, kr⟩
        refine ⟨[.src, .dead, .lst (bs.map prP)], [_], rfl, rfl, Nat.le_refl _, bs, _, _, _, rfl, rfl, ?_⟩
        rw [show (ss.length : Int) - ((i + 1 : Nat) : Int) = W - 1 by omega]
        refine kr.next fun a b z1 z2 z3 => ?_
        rw [List.length_map, List.take_length]
        exact pq.mem_iff.2 ((hcs a b).2 ⟨z1, z2, z3⟩)
    · rintro Γ M ⟨bs, o8, o10, o11, rfl, rfl, kr⟩
      refine ⟨bs, _, _, _, rfl, rfl, ?_⟩
      unfold rngC at kr
      rw [List.length_map, List.length_range] at kr
      rw [show (ss.length : Int) - ((ss.length + 1 : Nat) : Int) = -1 by omega] at kr
      exact kr
  rintro Γ M ⟨bs, o8, o10, o11, rfl, rfl, kr⟩
  refine gs_wipe [8, 10, 11] ?_
  refine gs_freeze 2 (ds := bs.map prP) rfl ?_
  have hsh := kr.short h1
  -- weight, asked, right
  with_reducible refine gs_seq ?_
  with_reducible refine gs_set ?_
  with_reducible refine ge_fz ?_
  repeat walk_at "h"
  with_reducible refine ge_lcMap bs prP (fun r => PyData.int (wt ss r.1 r.2)) ?_
  repeat walk_at "h"
  refine ⟨rfl, rfl, by omega, fun r _ => ?_, ?_⟩
  · repeat walk_at "h"
    refine ⟨(ss, r.1, r.2), .cons rfl (.cons rfl (.cons rfl .nil)), (show ss.length < 1000 by omega), ?_⟩
    rintro _ rfl
    exact ⟨PreM.rf _, rfl⟩
  repeat walk_at "h"
  refine cg_sum (ns := bs.map fun r => wt ss r.1 r.2) (by rw [List.map_map] <;> rfl) ?_
  refine ⟨PreM.app _ _, _, rfl, ?_⟩
  with_reducible refine gs_seq ?_
  with_reducible refine gs_set ?_
  with_reducible refine ge_fz ?_
  repeat walk_at "h"
  with_reducible refine ge_lcMap ss dI (fun m => PyData.int ((m.length : Int) - 1)) ?_
  repeat walk_at "h"
  refine ⟨rfl, rfl, by omega, fun m _ => ?_, ?_⟩
  · repeat walk_at "h"
    exact ⟨PreM.rf _, by rw [List.length_map] <;> rfl⟩
  repeat walk_at "h"
  refine cg_sum (ns := ss.map fun m => (m.length : Int) - 1) (by rw [List.map_map] <;> rfl) ?_
  refine ⟨PreM.app _ _, _, rfl, ?_⟩
  refine gs_cut (fun Γ M => Γ = [some (.ref 0), some (.dat (.int h)), some (.dat (.list (tr.map prP))), some (.dat (.list (s0.map dI))), none, none, some (.dat (.list (ss.map dI))), some (.dat (.list (cs.map prP))), none, some (.dat (.list (bs.map prP))), some (.dat (.int (wsum ss bs))), none, some (.dat (.int (asum ss))), some (.dat (rightOf ss bs)), none, none, none, none, none, none, none, none] ∧ M = [.src, .dead, .dead]) ?_ ?_
  · show GS _ [some (.ref 0), some (.dat (.int h)), some (.dat (.list (tr.map prP))), some (.dat (.list (s0.map dI))), none, none, some (.dat (.list (ss.map dI))), some (.dat (.list (cs.map prP))), none, some (.dat (.list (bs.map prP))), some (.dat (.int (wsum ss bs))), none, some (.dat (.int (asum ss))), none, none, none, none, none, none, none, none, none] _ _
    generalize ew : wsum ss bs = W
    generalize eq : asum ss = A
    with_reducible refine gs_set ?_
    repeat walk_at "h"
    refine ⟨fun z => ?_, fun z => ?_⟩
    · have z : W = A := of_decide_eq_true z
      repeat walk_at "h"
      refine ⟨?_, rfl⟩
      unfold rightOf
      rw [ew, eq, if_pos z] <;> rfl
    · have z : W ≠ A := of_decide_eq_false z
      repeat walk_at "h"
      refine cg_tuple rfl ?_
      repeat walk_at "h"
      refine ⟨?_, rfl⟩
      unfold rightOf
      rw [ew, eq, if_neg z] <;> rfl
  rintro Γ M ⟨rfl, rfl⟩
  have hright := kr.right h1 fun m hm => ⟨(hgs m hm).1, (hgs m hm).2.1⟩
  have hvr : VOk (rightOf ss bs) := rightOf_ok (by omega)
  -- handed
  refine gs_cut (fun Γ M => ∃ hs : List (List Int), Γ = [some (.ref 0), some (.dat (.int h)), some (.dat (.list (tr.map prP))), some (.dat (.list (s0.map dI))), none, none, some (.dat (.list (ss.map dI))), some (.dat (.list (cs.map prP))), none, some (.dat (.list (bs.map prP))), some (.dat (.int (wsum ss bs))), none, some (.dat (.int (asum ss))), some (.dat (rightOf ss bs)), some (.dat (.list (hs.map dI))), none, none, none, none, none, none, none] ∧ M = [.src, .dead, .dead] ∧ hs.map (bare h) = ss ∧ ∀ m ∈ hs, m.length < 60 ∧ ∀ y ∈ m, y ∈ upto h) ?_ ?_
  · with_reducible refine gs_set ?_
    with_reducible refine ge_fz ?_
    refine ge_lc ?_
    with_reducible refine gi_list ?_
    repeat walk_at "h"
    refine ⟨rfl, by rw [List.length_map]; omega, fun i acc => ∃ hs : List (List Int), acc = hs.map dI ∧ hs.length = i ∧ hs.map (bare h) = (s0.take i).map (bare h) ∧ ∀ m ∈ hs, m.length < 60 ∧ ∀ y ∈ m, y ∈ upto h, ⟨[], rfl, rfl, rfl, fun m hm => by cases hm⟩, ?_, ?_, ?_⟩
    · rintro i acc ⟨hs, rfl, hl, _⟩
      rw [List.length_map]; omega
    · rintro i d acc hd ⟨hs, rfl, hl, hb, hy⟩
      obtain ⟨m, hm, rfl⟩ := mp_at hd
      have gm := hg0 m (List.mem_of_getElem? hm)
      have gl := gm.len
      repeat walk_at "t"
      refine gt_yes ⟨fun _ => ?_, fun z => (by cases z)⟩
      with_reducible refine ge_cat ?_
      repeat walk_at "h"
      refine ⟨0, _, 2, rfl, rfl, .cons rfl .nil, ⟨by decide, by decide⟩, ?_⟩
      rintro _ ⟨k, k0, k1, rfl⟩
      refine rp_d ?_
      repeat walk_at "h"
      have ecut : GL.cutD (m.map PyData.int) none (some k) = (m.take k.toNat).map PyData.int := by rw [cut_pre _ k0, List.map_take]
      rw [ecut]
      refine ⟨?_, ?_⟩
      · rw [List.length_map, List.length_map, List.length_take]; omega
      refine ⟨PreM.app _ [_, _], _, ⟨(show 3 ≤ 4 by decide), _, rfl, rfl⟩, hs ++ [m ++ m.take k.toNat], ?_, ?_, ?_, fun x hx => ?_⟩
      · show _ ++ [PyData.list (m.map .int ++ (m.take k.toNat).map .int)] = _
        rw [List.map_append, ← List.map_append] <;> rfl
      · rw [List.length_append, hl] <;> rfl
      · rw [tk1 hm, List.map_append, List.map_append, hb]
        refine congrArg _ (congrArg (fun z => [z]) ?_)
        refine asc_uniq (asc_bare _ _) (asc_bare _ _) fun x => ?_
        rw [mem_bare, mem_bare, List.mem_append]
        exact ⟨fun ⟨z1, z2⟩ => ⟨z1, z2.elim id List.mem_of_mem_take⟩, fun ⟨z1, z2⟩ => ⟨z1, .inl z2⟩⟩
      · rcases List.mem_append.1 hx with hx | hx
        · exact hy x hx
        · rw [List.mem_singleton.1 hx]
          refine ⟨by rw [List.length_append, List.length_take]; omega, fun y hy => ?_⟩
          rcases List.mem_append.1 hy with z | z
          · exact gm.2.2 y z
          · exact gm.2.2 y (List.mem_of_mem_take z)
    · rintro acc ⟨hs, rfl, hl, hb, hy⟩
      refine fz_new ⟨hs, rfl, rfl, ?_, hy⟩
      rw [List.length_map, List.take_length] at hb
      rw [hb, ess]
  rintro Γ M ⟨hs, rfl, rfl, hhb, hhy⟩
  have hhl : hs.length ≤ 6 := by
    have := congrArg List.length hhb
    rw [List.length_map] at this
    omega
  -- the right verdict is let stand
  repeat walk_at "h"
  refine ⟨(h, hs, rightOf ss bs), .cons rfl (.cons rfl (.cons rfl .nil)), ⟨⟨h1, h2⟩, (show hs.length < 1000 by omega), hhy, hvr⟩, ?_⟩
  rintro _ ⟨d, hd, rfl⟩
  have hd : JD h (hs.map (bare h)) (rightOf ss bs) d := hd
  rw [hhb] at hd
  have ed := hd.uniq hright
  subst ed
  refine rp_d ?_
  repeat walk_at "h"
  refine ⟨fun z => (by cases z), fun _ => ?_⟩
  with_reducible refine gs_next ?_
  obtain ⟨t, rr, ert, ht, hrr⟩ : ∃ t rr, rightOf ss bs = .tuple (.str t :: rr) ∧ (t = "tree" ∨ t = "none") ∧ rr.length < 5 := by
    unfold rightOf
    split
    · exact ⟨_, _, rfl, .inl rfl, (show 1 < 5 by decide)⟩
    · exact ⟨_, _, rfl, .inr rfl, (show 3 < 5 by decide)⟩
  rw [ert]
  repeat walk_at "h"
  have merge : ∀ {u : TS} {E : GEnd} (kd at_ : Int), (∀ (ds : List PyData) (x3 x4 : MO), ds.length < 100 → GS u [some (.ref 0), some (.dat (.int h)), some (.dat (.list (tr.map prP))), some (.dat (.list (s0.map dI))), none, none, some (.dat (.list (ss.map dI))), some (.dat (.list (cs.map prP))), none, some (.dat (.list (bs.map prP))), some (.dat (.int (wsum ss bs))), none, some (.dat (.int (asum ss))), some (.dat (.tuple (.str t :: rr))), some (.dat (.list (hs.map dI))), some (.dat (.list ds)), some (.dat (.int kd)), some (.dat (.int at_)), none, none, none, none] [.src, .dead, .dead, x3, x4] E) → ∀ Γ M,
      ((∃ (ds : List PyData) (x3 x4 : MO) (o4 o18 o19 o20 : Option D), Γ = [some (.ref 0), some (.dat (.int h)), some (.dat (.list (tr.map prP))), some (.dat (.list (s0.map dI))), o4, none, some (.dat (.list (ss.map dI))), some (.dat (.list (cs.map prP))), none, some (.dat (.list (bs.map prP))), some (.dat (.int (wsum ss bs))), none, some (.dat (.int (asum ss))), some (.dat (.tuple (.str t :: rr))), some (.dat (.list (hs.map dI))), some (.dat (.list ds)), some (.dat (.int kd)), some (.dat (.int at_)), o18, o19, o20, none] ∧ M = [.src, .dead, .dead, x3, x4] ∧ ds.length < 100) ∨ ∃ (ds : List PyData) (x3 : MO) (o4 o18 o19 o20 : Option D), Γ = [some (.ref 0), some (.dat (.int h)), some (.dat (.list (tr.map prP))), some (.dat (.list (s0.map dI))), o4, none, some (.dat (.list (ss.map dI))), some (.dat (.list (cs.map prP))), none, some (.dat (.list (bs.map prP))), some (.dat (.int (wsum ss bs))), none, some (.dat (.int (asum ss))), some (.dat (.tuple (.str t :: rr))), some (.dat (.list (hs.map dI))), some (.ref 4), some (.dat (.int kd)), some (.dat (.int at_)), o18, o19, o20, none] ∧ M = [.src, .dead, .dead, x3, .lst ds] ∧ ds.length < 100) → GS u Γ M E := by
    rintro u E kd at_ k Γ M (⟨ds, x3, x4, o4, o18, o19, o20, rfl, rfl, hl⟩ | ⟨ds, x3, o4, o18, o19, o20, rfl, rfl, hl⟩)
    · exact gs_wipe [4, 18, 19, 20] (k ds x3 x4 hl)
    · exact gs_wipe [4, 18, 19, 20] (gs_freeze 4 (ds := ds) rfl (k ds x3 .dead hl))
  refine gs_for [4] ?_
  repeat walk_at "h"
  refine ⟨by decide, ?_⟩
  refine ⟨fun i Γ M => ∃ (o4 o15 o16 o17 o18 o19 o20 : Option D), Γ = [some (.ref 0), some (.dat (.int h)), some (.dat (.list (tr.map prP))), some (.dat (.list (s0.map dI))), o4, none, some (.dat (.list (ss.map dI))), some (.dat (.list (cs.map prP))), none, some (.dat (.list (bs.map prP))), some (.dat (.int (wsum ss bs))), none, some (.dat (.int (asum ss))), some (.dat (.tuple (.str t :: rr))), some (.dat (.list (hs.map dI))), o15, o16, o17, o18, o19, o20, none] ∧ M = [.src, .dead, .dead], ⟨_, _, _, _, _, _, _, rfl, rfl⟩, fun _ _ _ _ => trivial, ?_, ?_⟩
  · rintro i d Γ M hd ⟨o4, o15, o16, o17, o18, o19, o20, rfl, rfl⟩
    obtain ⟨_, rfl⟩ := rng_get hd
    repeat walk_at "t"
    refine gs_let [4, 15, 16, 17, 18, 19, 20] ?_
    -- roads
    refine gs_cut (fun Γ M => ∃ (rs : List Road) (o4 o16 o17 o18 o19 o20 : Option D), Γ = [some (.ref 0), some (.dat (.int h)), some (.dat (.list (tr.map prP))), some (.dat (.list (s0.map dI))), o4, none, some (.dat (.list (ss.map dI))), some (.dat (.list (cs.map prP))), none, some (.dat (.list (bs.map prP))), some (.dat (.int (wsum ss bs))), none, some (.dat (.int (asum ss))), some (.dat (.tuple (.str t :: rr))), some (.dat (.list (hs.map dI))), some (.ref 4), o16, o17, o18, o19, o20, none] ∧ M = [.src, .dead, .dead, .lst (rs.map prP), .lst (rs.map prP)] ∧ rs.length ≤ 11) ?_ ?_
    · have fin : ∀ {es : List PyData} {l : List Road}, l.length ≤ 11 → es.Perm (l.map prP) → ∃ rs : List Road, es = rs.map prP ∧ rs.length ≤ 11 := fun {es l} hl pm => by
        obtain ⟨rs, pr, rfl⟩ := perm_of_map pm rfl
        exact ⟨rs, rfl, by rw [pr.length_eq]; exact hl⟩
      repeat walk_at "h"
      refine ⟨0, _, 2, rfl, rfl, .cons rfl .nil, ⟨by decide, by decide⟩, ?_⟩
      rintro _ ⟨k, k0, k1, rfl⟩
      refine rp_d ?_
      repeat walk_at "h"
      refine ⟨fun _ => ?_, fun _ => ?_⟩
      · repeat walk_at "h"
        refine ⟨0, _, tr.map prP, rfl, rfl, .cons rfl .nil, (by rw [List.length_map]; omega), ?_⟩
        rintro _ ⟨es, pm, rfl⟩
        obtain ⟨rs, rfl, hl⟩ := fin (l := tr) (by omega) pm
        refine rp_n ?_
        repeat walk_at "h"
        refine cg_list (.inl rfl) ?_
        exact ⟨rs, _, _, _, _, _, _, rfl, rfl, hl⟩
      · repeat walk_at "h"
        refine ⟨0, _, bs.map prP, rfl, rfl, .cons rfl .nil, (by rw [List.length_map]; omega), ?_⟩
        rintro _ ⟨es, pm, rfl⟩
        obtain ⟨rs, rfl, hl⟩ := fin (l := bs) (by omega) pm
        refine rp_n ?_
        repeat walk_at "h"
        refine cg_list (.inl rfl) ?_
        exact ⟨rs, _, _, _, _, _, _, rfl, rfl, hl⟩
    rintro Γ M ⟨rs, o4, o16, o17, o18, o19, o20, rfl, rfl, hrs⟩
    repeat walk_at "h"
    refine ⟨0, _, 8, rfl, rfl, .cons rfl .nil, ⟨by decide, by decide⟩, ?_⟩
    rintro _ ⟨kd, kd0, kd1, rfl⟩
    refine rp_d ?_
    repeat walk_at "h"
    refine cg_int2 (f := fun i j => if j > i then j else i) rfl ?_
    rw [List.length_map]
    repeat walk_at "h"
    obtain ⟨L, hL, eL⟩ : ∃ L : Int, (0 < L ∧ L ≤ 1000000 ∧ (rs.length ≠ 0 → L = rs.length)) ∧ (if (rs.length : Int) > 1 then (rs.length : Int) else 1) = L := by
      refine ⟨_, ?_, rfl⟩
      split <;> omega
    rw [eL]
    refine ⟨0, _, L, rfl, rfl, .cons rfl .nil, ⟨hL.1, hL.2.1⟩, ?_⟩
    rintro _ ⟨at_, at0, at1, rfl⟩
    have at1 : at_ < L := at1
    refine rp_d ?_
    refine gs_cut (fun Γ M => (∃ (ds : List PyData) (x3 x4 : MO) (o4 o18 o19 o20 : Option D), Γ = [some (.ref 0), some (.dat (.int h)), some (.dat (.list (tr.map prP))), some (.dat (.list (s0.map dI))), o4, none, some (.dat (.list (ss.map dI))), some (.dat (.list (cs.map prP))), none, some (.dat (.list (bs.map prP))), some (.dat (.int (wsum ss bs))), none, some (.dat (.int (asum ss))), some (.dat (.tuple (.str t :: rr))), some (.dat (.list (hs.map dI))), some (.dat (.list ds)), some (.dat (.int kd)), some (.dat (.int at_)), o18, o19, o20, none] ∧ M = [.src, .dead, .dead, x3, x4] ∧ ds.length < 100) ∨ ∃ (ds : List PyData) (x3 : MO) (o4 o18 o19 o20 : Option D), Γ = [some (.ref 0), some (.dat (.int h)), some (.dat (.list (tr.map prP))), some (.dat (.list (s0.map dI))), o4, none, some (.dat (.list (ss.map dI))), some (.dat (.list (cs.map prP))), none, some (.dat (.list (bs.map prP))), some (.dat (.int (wsum ss bs))), none, some (.dat (.int (asum ss))), some (.dat (.tuple (.str t :: rr))), some (.dat (.list (hs.map dI))), some (.ref 4), some (.dat (.int kd)), some (.dat (.int at_)), o18, o19, o20, none] ∧ M = [.src, .dead, .dead, x3, .lst ds] ∧ ds.length < 100) ?_ ?_
    · repeat walk_at "h"
      rw [List.length_map]
      refine ⟨fun c0 => ?_, fun c0 => ?_⟩
      · with_reducible refine gs_set ?_
        with_reducible refine ge_fz ?_
        with_reducible refine ge_ov ?_
        with_reducible refine ge_lst ?_
        refine ga_cons (ge_fz ?_)
        repeat walk_at "h"
        refine ⟨[], rfl, Nat.zero_le _, fz_new ?_⟩
        refine ga_cons (ge_fz ?_)
        repeat walk_at "h"
        refine fz_new ?_
        refine ga_cons (ge_fz ?_)
        repeat walk_at "h"
        refine fz_new ?_
        refine ga_cons (ge_fz ?_)
        repeat walk_at "h"
        refine fz_new ?_
        repeat walk_at "h"
        refine ⟨0, _, 4, rfl, rfl, .cons rfl .nil, ⟨by decide, by decide⟩, ?_⟩
        rintro _ ⟨y, y0, y1, rfl⟩
        have y1 : y < 4 := y1
        refine rp_d ?_
        obtain ⟨ds, hds, ads⟩ : ∃ ds : List PyData, ds.length < 100 ∧ atI [PyData.list [], .list [.tuple [.int 1, .int 2]], .list [.tuple [.int 0, .int 1]], .list [.tuple [.int 1, .int 1]]] y = some (.list ds) := by
          have : y = 0 ∨ y = 1 ∨ y = 2 ∨ y = 3 := by omega
          rcases this with e | e | e | e <;> subst e <;> exact ⟨_, by decide, rfl⟩
        refine ⟨_, ov_ixL rfl ads, ?_⟩
        exact ⟨PreM.app _ [_], _, rfl, .inl ⟨ds, _, _, _, _, _, _, rfl, rfl, hds⟩⟩
      have c0 : rs.length ≠ 0 := fun e => of_decide_eq_false c0 (by rw [e] <;> rfl)
      have atl : at_ < rs.length := by have := hL.2.2 c0; omega
      have hix : ixN (rs.map prP).length at_ = some at_.toNat := ix_in at0 (by rw [List.length_map]; exact atl)
      have hset : ∀ d : PyData, ((rs.map prP).set at_.toNat d).length < 100 := fun d => by rw [List.length_set, List.length_map]; omega
      obtain ⟨r, hat⟩ : ∃ r : Road, atI (rs.map prP) at_ = some (prP r) := by
        have hlt : at_.toNat < rs.length := by omega
        exact ⟨rs[at_.toNat], at_int at0 (by rw [List.getElem?_map, List.getElem?_eq_getElem hlt] <;> rfl)⟩
      repeat walk_at "h"
      refine ⟨fun c1 => ?_, fun c1 => ?_⟩
      · with_reducible refine gs_setL ?_
        repeat walk_at "h"
        refine ⟨0, _, h + 2, rfl, rfl, .cons rfl .nil, ⟨by omega, by omega⟩, ?_⟩
        rintro _ ⟨x, x0, x1, rfl⟩
        refine rp_d ?_
        repeat walk_at "h"
        refine ⟨0, _, h + 1, rfl, rfl, .cons rfl .nil, ⟨by omega, by omega⟩, ?_⟩
        rintro _ ⟨y, y0, y1, rfl⟩
        refine rp_d ?_
        repeat walk_at "h"
        refine ⟨at_, at_.toNat, rs.map prP, rfl, rfl, hix, ?_⟩
        exact .inr ⟨_, _, _, _, _, _, rfl, rfl, hset _⟩
      repeat walk_at "h"
      refine ⟨fun c2 => ?_, fun c2 => ?_⟩
      · with_reducible refine gs_set ?_
        with_reducible refine ge_fz ?_
        repeat walk_at "h"
        refine fz_new (.inl ⟨_, _, _, _, _, _, _, rfl, rfl, ?_⟩)
        rw [cut_pre _ at0, List.length_take, List.length_map]
        omega
      have rest : ∀ {u : TS}, True := fun {u} => trivial
      repeat walk_at "h"
      refine ⟨fun c3 => ?_, fun c3 => ?_⟩
      · repeat walk_at "h"
        rw [List.length_map]
        refine ⟨fun c4 => ?_, fun c4 => ?_⟩
        · have c4 := of_decide_eq_true c4
          with_reducible refine gs_set ?_
          with_reducible refine ge_fz ?_
          with_reducible refine ge_cat ?_
          repeat walk_at "h"
          rw [List.length_map]
          repeat walk_at "h"
          refine ⟨0, _, (cs.length : Int), rfl, rfl, .cons rfl .nil, ⟨by omega, by omega⟩, ?_⟩
          rintro _ ⟨y, y0, y1, rfl⟩
          have y1 : y < cs.length := y1
          refine rp_d ?_
          have hlt : y.toNat < cs.length := by omega
          refine ⟨_, ov_ixL rfl (at_int (v := prP cs[y.toNat]) y0 (by rw [List.getElem?_map, List.getElem?_eq_getElem hlt] <;> rfl)), ?_⟩
          repeat walk_at "h"
          refine ⟨?_, ?_⟩
          · rw [List.length_map]
            show rs.length + 1 ≤ 100000
            omega
          refine ⟨PreM.app _ [_, _], _, ⟨(show 5 ≤ 6 by decide), _, rfl, rfl⟩, .inl ⟨_, _, _, _, _, _, _, rfl, rfl, ?_⟩⟩
          rw [List.length_append, List.length_map]
          show rs.length + 1 < 100
          omega
        · repeat walk_at "h"
          refine ⟨fun c5 => ?_, fun c5 => ?_⟩
          · have c3 := of_decide_eq_true c3
            have c5 := of_decide_eq_true c5
            omega
          · repeat walk_at "h"
            exact .inr ⟨_, _, _, _, _, _, rfl, rfl, by rw [List.length_map]; omega⟩
      · refine ⟨fun z => (by cases z), fun _ => ?_⟩
        repeat walk_at "h"
        refine ⟨fun c5 => ?_, fun c5 => ?_⟩
        · with_reducible refine gs_setL ?_
          with_reducible refine ge_fz ?_
          with_reducible refine ge_ov ?_
          with_reducible refine ge_lst ?_
          refine ga_cons (ge_fz ?_)
          repeat walk_at "h"
          refine ⟨_, ov_ixL rfl hat, ?_⟩
          repeat walk_at "h"
          refine ⟨_, ov_ixL rfl hat, ?_⟩
          repeat walk_at "h"
          refine fz_dat ?_
          refine ga_cons (ge_fz ?_)
          repeat walk_at "h"
          refine fz_dat ?_
          refine ga_cons (ge_fz ?_)
          repeat walk_at "h"
          refine ⟨_, ov_ixL rfl hat, ?_⟩
          repeat walk_at "h"
          refine cg_list (.inr rfl) ?_
          refine fz_new ?_
          refine ga_cons (ge_fz ?_)
          repeat walk_at "h"
          refine fz_dat ?_
          refine ga_cons (ge_fz ?_)
          repeat walk_at "h"
          refine fz_dat ?_
          repeat walk_at "h"
          refine ⟨[_, _, _, _, _], rfl, (show 5 ≤ 100000 by decide), ?_⟩
          repeat walk_at "h"
          refine ⟨0, _, 5, rfl, rfl, .cons rfl .nil, ⟨by decide, by decide⟩, ?_⟩
          rintro _ ⟨y, y0, y1, rfl⟩
          have y1 : y < 5 := y1
          refine rp_d ?_
          obtain ⟨v, av⟩ : ∃ v : PyData, atI [PyData.tuple [.int r.2, .int r.1], .none, .list [.int r.1, .int r.2], .tuple [.bool true, .int 2], .tuple [.int 1, .int 2, .int 3]] y = some v := by
            have : y = 0 ∨ y = 1 ∨ y = 2 ∨ y = 3 ∨ y = 4 := by omega
            rcases this with e | e | e | e | e <;> subst e <;> exact ⟨_, rfl⟩
          refine ⟨_, ov_ixL rfl av, ?_⟩
          refine ⟨PreM.app _ [_], _, rfl, ?_⟩
          repeat walk_at "h"
          refine ⟨at_, at_.toNat, rs.map prP, rfl, rfl, hix, ?_⟩
          exact .inr ⟨_, _, _, _, _, _, rfl, rfl, hset _⟩
        · repeat walk_at "h"
          exact .inr ⟨_, _, _, _, _, _, rfl, rfl, by rw [List.length_map]; omega⟩
    refine merge kd at_ fun ds x3 x4 hds => ?_
    -- most
    with_reducible refine gs_seq ?_
    with_reducible refine gs_set ?_
    refine GE.mono (P := fun d M' => M' = [.src, .dead, .dead, x3, x4] ∧ ∃ mo : Int, d = .dat (.int mo)) ?_ ?_
    · repeat walk_at "h"
      refine ⟨fun _ => ?_, fun _ => ?_⟩
      · repeat walk_at "h"
        exact ⟨rfl, _, rfl⟩
      · repeat walk_at "h"
        exact ⟨rfl, _, rfl⟩
    rintro _ _ ⟨rfl, mo, rfl⟩
    have h8 : ∀ (t : Str) (r : List PyData), (t = "tree" ∨ t = "none") → r.length ≤ 2 → OkV (.tuple (.str t :: .list ds :: r)) ∨ r.length = 2 := fun t r ht hl => by
      by_cases e : r.length = 2
      · exact .inr e
      · refine .inl (okv t _ ht (by rw [List.length_cons]; omega) (fun z => by rw [List.length_cons] at z; omega) fun d s e => ?_)
        injection e with e1 e2
        exact ⟨ds, by omega, e1.symm⟩
    have h9 : ∀ a b : PyData, OkV (.tuple [.str "none", .list ds, a, b]) := fun a b => okv _ _ (.inr rfl) (show 3 ≤ 3 by decide) (fun _ => rfl) fun d s e => by
      injection e with e1 e2
      exact ⟨ds, by omega, e1.symm⟩
    -- wrong
    refine gs_cut (fun Γ M => ∃ ws : List PyData, Γ = [some (.ref 0), some (.dat (.int h)), some (.dat (.list (tr.map prP))), some (.dat (.list (s0.map dI))), none, none, some (.dat (.list (ss.map dI))), some (.dat (.list (cs.map prP))), none, some (.dat (.list (bs.map prP))), some (.dat (.int (wsum ss bs))), none, some (.dat (.int (asum ss))), some (.dat (.tuple (.str t :: rr))), some (.dat (.list (hs.map dI))), some (.dat (.list ds)), some (.dat (.int kd)), some (.dat (.int at_)), some (.dat (.int mo)), some (.dat (.list ws)), none, none] ∧ M = [.src, .dead, .dead, x3, x4] ∧ ws.length = 8 ∧ ∀ v ∈ ws, OkV v) ?_ ?_
    · with_reducible refine gs_set ?_
      with_reducible refine ge_fz ?_
      with_reducible refine ge_lst ?_
      refine ga_cons (ge_fz ?_)
      repeat walk_at "h"
      refine fz_dat ?_
      refine ga_cons (ge_fz ?_)
      refine GE.mono (P := fun d M' => M' = [.src, .dead, .dead, x3, x4] ∧ ∃ x : Int, d = .dat (.tuple [.str "none", .list ds, .int mo, .int x])) ?_ ?_
      · repeat walk_at "h"
        refine ⟨fun _ => ?_, fun _ => ?_⟩
        · repeat walk_at "h"
          exact ⟨rfl, _, rfl⟩
        · repeat walk_at "h"
          exact ⟨rfl, _, rfl⟩
      rintro _ _ ⟨rfl, x1, rfl⟩
      refine fz_dat ?_
      refine ga_cons (ge_fz ?_)
      repeat walk_at "h"
      refine fz_dat ?_
      refine ga_cons (ge_fz ?_)
      repeat walk_at "h"
      refine fz_dat ?_
      refine ga_cons (ge_fz ?_)
      repeat walk_at "h"
      refine cg_list (.inr rfl) ?_
      refine fz_new ?_
      refine ga_cons (ge_fz ?_)
      repeat walk_at "h"
      refine fz_dat ?_
      refine ga_cons (ge_fz ?_)
      repeat walk_at "h"
      refine fz_dat ?_
      refine ga_cons (ge_fz ?_)
      repeat walk_at "h"
      refine fz_dat ?_
      repeat walk_at "h"
      refine ⟨[_, _, _, _, _, _, _, _], rfl, (show 8 ≤ 100000 by decide), fz_new ?_⟩
      refine ⟨_, rfl, rfl, rfl, fun v hv => ?_⟩
      simp only [List.mem_cons, List.not_mem_nil, or_false] at hv
      rcases hv with rfl | rfl | rfl | rfl | rfl | rfl | rfl | rfl
      · exact (h8 _ [] (.inl rfl) (by decide)).resolve_right (by decide)
      · exact h9 _ _
      · exact (h8 _ [_] (.inr rfl) (show 1 ≤ 2 by decide)).resolve_right (show ¬ 1 = 2 by decide)
      · exact (h8 _ [_] (.inl rfl) (show 1 ≤ 2 by decide)).resolve_right (show ¬ 1 = 2 by decide)
      · exact okv_list _
      · exact okv_none
      · exact h9 _ _
      · exact okv _ _ ht (show 0 ≤ 3 by decide) (fun z => by cases z) fun d s e => by cases e
    rintro Γ M ⟨ws, rfl, rfl, hws, hwv⟩
    have wat : ∀ y : Int, 0 ≤ y → y < 8 → ∃ v, OkV v ∧ atI ws y = some v := fun y y0 y1 => by
      have hlt : y.toNat < ws.length := by omega
      exact ⟨ws[y.toNat], hwv _ (List.getElem_mem hlt), at_int y0 (List.getElem?_eq_getElem hlt)⟩
    -- bent
    refine gs_cut (fun Γ M => ∃ bt : PyData, Γ = [some (.ref 0), some (.dat (.int h)), some (.dat (.list (tr.map prP))), some (.dat (.list (s0.map dI))), none, none, some (.dat (.list (ss.map dI))), some (.dat (.list (cs.map prP))), none, some (.dat (.list (bs.map prP))), some (.dat (.int (wsum ss bs))), none, some (.dat (.int (asum ss))), some (.dat (.tuple (.str t :: rr))), some (.dat (.list (hs.map dI))), some (.dat (.list ds)), some (.dat (.int kd)), some (.dat (.int at_)), some (.dat (.int mo)), some (.dat (.list ws)), some (.dat bt), none] ∧ M = [.src, .dead, .dead, x3, x4] ∧ OkV bt) ?_ ?_
    · repeat walk_at "h"
      refine ⟨fun _ => ?_, fun _ => ?_⟩
      · repeat walk_at "h"
        refine ⟨0, _, 2, rfl, rfl, .cons rfl .nil, ⟨by decide, by decide⟩, ?_⟩
        rintro _ ⟨y, y0, y1, rfl⟩
        have y1 : y < 2 := y1
        refine rp_d ?_
        obtain ⟨v, hv, av⟩ := wat y y0 (by omega)
        exact ⟨_, ov_ixL rfl av, v, rfl, rfl, hv⟩
      · repeat walk_at "h"
        refine ⟨0, _, 8, rfl, rfl, .cons rfl .nil, ⟨by decide, by decide⟩, ?_⟩
        rintro _ ⟨y, y0, y1, rfl⟩
        have y1 : y < 8 := y1
        refine rp_d ?_
        obtain ⟨v, hv, av⟩ := wat y y0 y1
        exact ⟨_, ov_ixL rfl av, v, rfl, rfl, hv⟩
    rintro Γ M ⟨bt, rfl, rfl, hbt⟩
    refine gs_cut (fun Γ M => ∃ bt : PyData, Γ = [some (.ref 0), some (.dat (.int h)), some (.dat (.list (tr.map prP))), some (.dat (.list (s0.map dI))), none, none, some (.dat (.list (ss.map dI))), some (.dat (.list (cs.map prP))), none, some (.dat (.list (bs.map prP))), some (.dat (.int (wsum ss bs))), none, some (.dat (.int (asum ss))), some (.dat (.tuple (.str t :: rr))), some (.dat (.list (hs.map dI))), some (.dat (.list ds)), some (.dat (.int kd)), some (.dat (.int at_)), some (.dat (.int mo)), some (.dat (.list ws)), some (.dat bt), none] ∧ M = [.src, .dead, .dead, x3, x4] ∧ VOk bt) ?_ ?_
    · repeat walk_at "h"
      refine ⟨0, _, 3, rfl, rfl, .cons rfl .nil, ⟨by decide, by decide⟩, ?_⟩
      rintro _ ⟨y, y0, y1, rfl⟩
      refine rp_d ?_
      repeat walk_at "h"
      refine ⟨fun _ => ?_, fun _ => ⟨fun z => (by cases z), fun _ => ?_⟩⟩
      · repeat walk_at "h"
        refine ⟨fun c2 => ?_, fun c2 => ⟨fun z => (by cases z), fun _ => ?_⟩⟩
        · obtain ⟨es, rfl⟩ := pTup_tuple c2
          repeat walk_at "h"
          refine ⟨fun c3 => ?_, fun c3 => ⟨fun z => (by cases z), fun _ => ?_⟩⟩
          · have c3 := of_decide_eq_true c3
            obtain ⟨a, b, c, d, rfl⟩ : ∃ a b c d, es = [a, b, c, d] := by
              match es, c3 with
              | [a, b, c, d], _ => exact ⟨a, b, c, d, rfl⟩
              | [], z => simp at z
              | [_], z => simp at z
              | [_, _], z => simp at z
              | [_, _, _], z => simp at z
              | _ :: _ :: _ :: _ :: _ :: _, z => simp only [List.length_cons] at z; omega
            have ea := hbt.2 a b c d rfl
            subst ea
            repeat walk_at "h"
            refine ⟨.list ds, .cons rfl .nil, fun es he => ?_, ?_⟩
            · rcases he with he | he <;> cases he
              omega
            rintro _ rfl
            refine rp_d ?_
            repeat walk_at "h"
            refine ⟨fun c4 => ?_, fun c4 => ?_⟩
            · obtain ⟨rs2, ers⟩ : ∃ rs2, rowsOf (.list ds) = some rs2 := by
                cases q : rowsOf (.list ds) with
                | none => rw [q] at c4; cases c4
                | some rs2 => exact ⟨rs2, rfl⟩
              have eds : ds = rs2.map prP := by
                rcases rowsOf_some ers with e | e
                · injection e
                · cases e
              subst eds
              rw [List.length_map] at hds
              with_reducible refine gs_set ?_
              with_reducible refine ge_fz ?_
              repeat walk_at "h"
              with_reducible refine ge_lcMap rs2 prP (fun r => PyData.int (wt ss r.1 r.2)) ?_
              repeat walk_at "h"
              refine ⟨rfl, rfl, by omega, fun r _ => ?_, ?_⟩
              · repeat walk_at "h"
                refine ⟨(ss, r.1, r.2), .cons rfl (.cons rfl (.cons rfl .nil)), (show ss.length < 1000 by omega), ?_⟩
                rintro _ rfl
                exact ⟨PreM.rf _, rfl⟩
              repeat walk_at "h"
              refine cg_sum (ns := rs2.map fun r => wt ss r.1 r.2) (by rw [List.map_map] <;> rfl) ?_
              repeat walk_at "h"
              refine ⟨PreM.app _ [_], _, rfl, ?_⟩
              exact ⟨_, rfl, rfl, (h9 _ _).1⟩
            · repeat walk_at "h"
              exact ⟨rfl, hbt.1⟩
          · repeat walk_at "h"
            exact ⟨rfl, hbt.1⟩
        · repeat walk_at "h"
          exact ⟨rfl, hbt.1⟩
      · repeat walk_at "h"
        exact ⟨rfl, hbt.1⟩
    clear hbt bt
    rintro Γ M ⟨bt, rfl, rfl, hbt⟩
    repeat walk_at "h"
    refine ⟨(h, hs, bt), .cons rfl (.cons rfl (.cons rfl .nil)), ⟨⟨h1, h2⟩, (show hs.length < 1000 by omega), hhy, hbt⟩, ?_⟩
    rintro _ ⟨d1, j1, rfl⟩
    have j1 : JD h (hs.map (bare h)) bt d1 := j1
    rw [hhb] at j1
    refine rp_d ?_
    repeat walk_at "h"
    refine ⟨(h, ss, bt), .cons rfl (.cons rfl (.cons rfl .nil)), ⟨⟨h1, h2⟩, (show ss.length < 1000 by omega), fun m hm => ⟨(hgs m hm).1, (hgs m hm).2.1, by have := (hgs m hm).len; omega⟩, hbt⟩, ?_⟩
    rintro _ ⟨d2, j2, rfl⟩
    have e12 := j1.uniq j2
    subst e12
    refine rp_d ?_
    repeat walk_at "h"
    refine ⟨d1, .cons rfl (.cons rfl .nil), j1.simple, ?_⟩
    rintro _ rfl
    refine rp_d ?_
    repeat walk_at "h"
    refine ⟨fun z => (by cases z), fun _ => ?_⟩
    with_reducible refine gs_next ?_
    exact ⟨[.src, .dead, .dead], [x3, x4], rfl, rfl, Nat.le_refl _, _, _, _, _, _, _, _, rfl, rfl⟩
  · rintro Γ M ⟨o4, o15, o16, o17, o18, o19, o20, rfl, rfl⟩
    repeat walk_at "h"
    exact rt_dS rfl rfl
end
end K99

namespace K99
open PySem PySem.Spec PyProof.Rows L2 GL Gr
local macro_rules | `(tactic| walk_at "g") => `(tactic| first
  | (with_reducible refine gs_seq ?_)
  | (with_reducible refine gs_set ?_)
  | (with_reducible refine gs_ret ?_)
  | (with_reducible refine gs_if ?_)
  | (with_reducible refine gs_drop ?_)
  | (with_reducible refine gs_next ?_)
  | ((with_reducible refine ge_var (d := ?dv) ?hv ?pv); (case hv => exact rfl))
  | (with_reducible refine ge_int ?_)
  | (with_reducible refine ge_bl ?_)
  | (with_reducible refine ge_str ?_)
  | (with_reducible refine ge_non ?_)
  | (with_reducible refine ge_cat ?_)
  | (with_reducible refine ge_ov ?_)
  | (with_reducible refine og_ov ?_)
  | (with_reducible refine ge_chain3 ?_)
  | (with_reducible refine ge_listRg1 ?_)
  | (with_reducible refine ge_isi ?_)
  | (with_reducible refine ge_isi2 ?_)
  | (with_reducible refine ge_cb ?_)
  | (with_reducible refine ga_nil ?_)
  | (with_reducible refine ga_cons ?_)
  | (with_reducible refine ge_andV ?_)
  | (with_reducible refine ge_orV ?_)
  | (with_reducible refine ge_notV ?_)
  | (with_reducible refine ge_isN ?_)
  | (with_reducible refine ge_notN ?_)
  | (with_reducible refine ge_if ?_)
  | (with_reducible refine ge_tup ?_)
  | (with_reducible refine ge_lst ?_)
  | (with_reducible refine ge_slL ?_)
  | (with_reducible refine ge_slT ?_)
  | (with_reducible refine go_none ?_)
  | (with_reducible refine go_some ?_)
  | (with_reducible refine gt_test ?_)
  | (with_reducible refine gt_B ?_)
  | (with_reducible refine gt_and ?_)
  | (with_reducible refine gt_or ?_)
  | (with_reducible refine gt_not ?_)
  | (with_reducible refine gi_list ?_)
  | (with_reducible refine gi_tup ?_)
  | (with_reducible refine gi_rng1 ?_)
  | (with_reducible refine gi_rng2 ?_)
  | (with_reducible refine gi_rng3 ?_)
  | (with_reducible refine gi_enum ?_)
  | (with_reducible refine gi_zipT ?_)
  | (with_reducible refine gs_asg _ ?_)
  | (with_reducible refine gg_name (by decide) ?_)
  | ((with_reducible refine gg_tup ?hn ?hg); (case hn => exact rfl))
  | (with_reducible refine ggs_cons ?_)
  | (with_reducible refine ggs_nil ?_)
  | (with_reducible refine ge_append ?_)
  | (with_reducible refine ge_popAt ?_)
  | (with_reducible refine ge_dget ?_)
  | (with_reducible refine ge_din ?_)
  | (with_reducible refine ge_dnotin ?_)
  | (with_reducible refine gs_dput ?_)
  | (with_reducible refine ge_call ?_)
  | (with_reducible refine ge_callS ?_)
  | (refine ⟨_, ov_I0i, ?_⟩)
  | (refine ⟨_, ov_I0b, ?_⟩)
  | (refine ⟨_, ov_isin rfl, ?_⟩)
  | (refine ⟨_, ov_notin rfl, ?_⟩)
  | (refine ⟨_, ov_eq rfl, ?_⟩)
  | (refine ⟨_, ov_ne rfl, ?_⟩)
  | (refine cg_len (.inl rfl) ?_)
  | (refine cg_len (.inr rfl) ?_)
  | (refine ⟨_, ov_ixT rfl rfl, ?_⟩)
  | (refine ⟨_, ov_ixL rfl rfl, ?_⟩)
  | (refine ⟨_, ov_ixT rfl (atI_nat (j := 0) rfl), ?_⟩)
  | (refine ⟨_, ov_ixL rfl (atI_nat (j := 0) rfl), ?_⟩)
  | (refine ⟨_, ov_ixT rfl (atI_nat (j := 1) rfl), ?_⟩)
  | (refine ⟨_, ov_ixL rfl (atI_nat (j := 1) rfl), ?_⟩)
  | (refine ⟨_, ov_ixT rfl (atI_nat (j := 2) rfl), ?_⟩)
  | (refine ⟨_, ov_ixL rfl (atI_nat (j := 2) rfl), ?_⟩)
  | (refine ⟨_, ov_ixT rfl (atI_nat (j := 3) rfl), ?_⟩)
  | (refine ⟨_, ov_ixL rfl (atI_nat (j := 3) rfl), ?_⟩)
  | (refine ⟨_, _, rfl, kit_int _, ?_⟩)
  | (refine ⟨_, _, rfl, kit_bool _, ?_⟩)
  | (refine ⟨_, _, rfl, kit_str _, ?_⟩)
  | (refine ⟨_, _, rfl, kit_tuple _, ?_⟩)
  | (refine ⟨_, _, rfl, kit_list _, ?_⟩)
  | (refine ⟨_, _, rfl, kit_dict _, ?_⟩)
  | (refine ⟨_, _, rfl, kit_lt _, ?_⟩)
  | (refine ⟨_, rfl, ?_⟩))
local macro_rules | `(tactic| walk_at "t") => `(tactic| first
  | (with_reducible refine gg_name (by decide) ?_)
  | ((with_reducible refine gg_tup ?hn ?hg); (case hn => exact rfl))
  | (with_reducible refine ggs_cons ?_)
  | (with_reducible refine ggs_nil ?_))

local macro_rules | `(tactic| walk_at "h") => `(tactic| first
  | (with_reducible refine ge_kdict ?_)
  | walk_at "g"
  | (with_reducible refine gs_setS ?_)
  | (refine ⟨_, ov_ixS rfl rfl, ?_⟩)
  | (refine ⟨_, ov_Ii (C := CMul) (.inr ⟨by decide, by decide⟩), ?_⟩)
  | (refine ⟨_, ov_Ii (C := fun _ j => j ≠ 0) (by decide), ?_⟩)
  | (refine ⟨_, ov_Ii (C := CDivN) ⟨by decide, by decide⟩, ?_⟩)
  | (refine ⟨_, ov_Ii (C := CPow) ⟨by decide, by decide, by decide⟩, ?_⟩)
  | (refine ⟨[_], rfl, (show 1 ≤ 100000 by decide /-tup2-/), ?_⟩)
  | (refine ⟨[_, _], rfl, (show 2 ≤ 100000 by decide), ?_⟩)
  | (refine ⟨[_, _, _], rfl, (show 3 ≤ 100000 by decide), ?_⟩)
  | (refine ⟨[_, _, _, _], rfl, (show 4 ≤ 100000 by decide), ?_⟩)
  | (refine ⟨_, _, rfl, rfl, ?_⟩)
  | (refine ⟨_, _, rfl, ?_⟩))
local macro_rules | `(tactic| walk_at "s") => `(tactic| first
  | (with_reducible refine gs_retS 0 ?_)
  | walk_at "h")

abbrev s_init : Stmt := inClass (topS 2) 0
theorem sc_init : FnScope ["self", "what"] ["self", "what"] (defScope s_init) := ⟨rfl, rfl, rfl, by decide +kernel, rfl, by decide +kernel, by decide +kernel⟩
/-- what the written part says of TooMany, at C, and of its __init__, at fI -/
structure TooT (K : PySem.W.Frag) (mg : Str → Option Value) (C fI : Addr) : Prop where
  gC : mg "TooMany" = some (.ref C)
  ox : OexC K C
  iC : PySem.W.findIn K (.ref C) "__init__" = some (some (.ref fI))
  tI : PySem.W.typeIn K (.ref fI) = some (.type "function")
  ga : PySem.W.findIn K (.ref C) "__getattribute__" = some (some (.builtin "BaseException.__getattribute__"))
  gg : PySem.W.findIn K (.ref C) "__getattr__" = some none
  noN : PySem.W.findIn K (.ref C) "what" = some none
  hdC : PySem.W.hasDictIn K C = true
  te : PySem.W.exmOne K (.ref C) (.ref C) = some true
theorem ite_yes {c : Bool} {A B : Prop} (hc : c = true) (h : A) : if c = true then A else B := by
  rw [if_pos hc]
  exact h
theorem made_eq {H : Hp} {a dx : Addr} {x y z u : HO} (h : H a = none) (hne : dx ≠ a) : upd (del (upd (upd (upd H a x) dx y) a z) a) dx u = upd H dx u := by
  funext b
  by_cases e : b = dx
  · subst e; rw [upd_same, upd_same]
  · rw [upd_ne e, upd_ne e]
    by_cases e2 : b = a
    · subst e2; rw [del_same, h]
    · rw [del_ne e2, upd_ne e2, upd_ne e, upd_ne e2]
section
variable {P : Program} {w : World} {K : PySem.W.Frag} {mg : Str → Option Value} {base : Heap} {C fI : Addr}
def spInit (C : Addr) : Sp := fun vs H Q _ => ∃ (a : Addr) (v : V), vs = [.ref a, v] ∧ H a = some (exo a C none) ∧ ∀ dx, H dx = none → dx ≠ a → Q .non (upd (upd H dx (exd dx [("what", v)])) a (exo a C (some dx)))
theorem ok_init {fdI : FuncData} (F : Fun K "__init__" "TooMany.__init__" s_init fI fdI) (T : TooT K mg C fI) : FnOk P w K mg base CX0 1 fI fdI ["self", "what"] (spInit C) := by
  refine F.ok sc_init (fun vs H Q E h => ?_) (fun cdv A outer s H vs Q E hr h => ?_)
  · obtain ⟨a, v, rfl, _⟩ := h
    rfl
  · refine ⟨_, pss_one (ps_ost (pv 0) (pv 1)), ?_⟩
    obtain ⟨a, v, rfl, h1, h2⟩ := h
    exact ⟨_, rfl, _, rfl, a, C, rfl, T.ox, T.noN, .inl ⟨h1, h2⟩⟩
/-- the bound is passed: TooMany, what it names in its own dict -/
def spBoundX (C : Addr) : Sp := fun vs H _ E => vs = [.str "houses", .int 13] ∧ ∀ d, H d = none → E (.ref C) (some d) (upd H d (.xd [("what", .str "houses")]))
theorem ok_boundX {fdI : FuncData} (D : DefF K mg "bound" s_bound ["what", "number"]) (L : LimT K w mg) (T : TooT K mg C fI) (FI : Fun K "__init__" "TooMany.__init__" s_init fI fdI) :
    ∃ (f : Addr) (fd : FuncData), FnOk P w K mg base (L2.CX P w) 4 f fd ["what", "number"] (spBoundX C) ∧ mg "bound" = some (.ref f) ∧ PySem.W.keepIn K (.ref f) = true ∧ Binds K fd ["what", "number"] [] := by
  obtain ⟨f, fd, F, g, b⟩ := D
  obtain ⟨D_LIMITS, g_LIMITS, hk⟩ := L
  have bI := FI.binds (ps := ["self", "what"]) fun _ _ _ _ _ _ us hl => match us, hl with | [_, _], _ => rfl
  refine ⟨f, fd, F.okX sc_bound (fun vs H Q E h => ?_) (fun cdv A outer s H vs Q E hr h => ?_), g, F.kp, b⟩
  · rw [h.1] <;> rfl
  refine ⟨tSeq (tIfS (tTest (tOp (rI0 fun i j => .bl (decide (j < i))) (tVar 1) (tOp (rIxD K w) (tC (.ref D_LIMITS)) (tVar 0)))) (fun _ σ H => tMkO C (spInit C) [] (tCons (tVar 0) tNil) σ H fun cls d H' => E cls d H') tNext) tNext, ?_, ?_⟩
  · exact pss_one (ps_if (pt_cmpR op_gt (pv 1) (pe_ix (k_ixD (K := K) (w := w) rfl rfl) (pe_glob (v := .ref D_LIMITS) (by rfl) g_LIMITS rfl) (pv 0) (fun _ _ => rfl)) (nomark _))
      (pss_one (ps_raise rfl (takes_of rfl rfl rfl rfl) (pmk_oex T.ox T.iC T.tI (ok_init (w := w) (P := P) (base := base) FI T) (hr.mono (by decide)) bI .nil pass0 (by rfl) T.gC (pa_cons (pv 0) pa_nil)))) pss_nil)
  · obtain ⟨rfl, hE⟩ := h
    refine ⟨_, rfl, _, rfl, D_LIMITS, _, _, rfl, rfl, hk, _, _, rfl, rfl, _, rfl, ?_⟩
    refine ite_yes (by decide) ?_
    refine ⟨_, rfl, (show 1 ≤ 1000 by decide), fun a ha => ⟨a, _, rfl, upd_same, fun dx hdx hne => ⟨rfl, dx, [("what", .str "houses")], upd_same, ?_, ?_, ?_⟩⟩⟩
    · rw [upd_ne hne, upd_same]
    · rw [upd_ne hne] at hdx; exact hdx
    · rw [made_eq ha hne]
      rw [upd_ne hne] at hdx
      exact hE dx hdx
/-- the judge at thirteen houses -/
def spJudgeX (C : Addr) : Sp := fun vs H _ E => (∃ v2 v3, vs = [.int 13, v2, v3]) ∧ ∀ d, H d = none → E (.ref C) (some d) (upd H d (.xd [("what", .str "houses")]))
theorem ok_judgeX {fdI : FuncData} (D : DefF K mg "judge_roads" s_judge_roads ["houses", "sets", "verdict"]) (DB : DefF K mg "bound" s_bound ["what", "number"]) (L : LimT K w mg) (T : TooT K mg C fI) (FI : Fun K "__init__" "TooMany.__init__" s_init fI fdI) :
    ∃ (f : Addr) (fd : FuncData), FnOk P w K mg base (L2.CX P w) 5 f fd ["houses", "sets", "verdict"] (spJudgeX C) ∧ mg "judge_roads" = some (.ref f) ∧ PySem.W.keepIn K (.ref f) = true ∧ Binds K fd ["houses", "sets", "verdict"] [] := by
  obtain ⟨f, fd, F, g, b⟩ := D
  obtain ⟨fB, fdB, GB, gB, kB, bB⟩ := ok_boundX (P := P) (w := w) (base := base) DB L T FI
  refine ⟨f, fd, F.okX sc_judge_roads (fun vs H Q E h => ?_) (fun cdv A outer s H vs Q E hr h => ?_), g, F.kp, b⟩
  · obtain ⟨⟨v2, v3, rfl⟩, _⟩ := h
    rfl
  refine ⟨tSeq (tDrop (tCallS (spBoundX C) (WE fun cls d _ H => E cls d H) (tCons (tC (.str "houses")) (tCons (tVar 0) tNil)))) tNever, ?_, ?_⟩
  · exact pss_cons (ps_expr (pe_callS GB hr (by rfl) gB kB bB (fun σ => passAt (takes_of rfl rfl rfl rfl) σ) (pa_cons pe_str (pa_cons (pv 0) pa_nil)))) pss_never
  · obtain ⟨⟨v2, v3, rfl⟩, hE⟩ := h
    exact ⟨_, rfl, rfl, hE⟩
/-- error.what, the error that the suite holds (at a; its class cls, its dict d) -/
def tWhat (C : Addr) (a : Addr) (cls : Value) (d : Option Addr) (te : TE) : TE := fun σ H Q => te σ H fun x H1 => x = .ref a ∧ cls = .ref C ∧ ∃ (dd : Addr) (v : V), d = some dd ∧ H1 dd = some (.xd [(("what" : Str), v)]) ∧ Q v H1
theorem relO_what {v : V} {v' : Value} (r : RelV v v') (f : Str) : RelO (List.lookup f [(("what" : Str), v)]) (if f = "what" then some v' else none) := by
  by_cases hw : f = "what"
  · subst hw
    rw [if_pos rfl]
    have q : List.lookup ("what" : Str) [(("what" : Str), v)] = some v := by simp [List.lookup]
    rw [q]
    exact r
  · rw [if_neg hw]
    have qw : (f == ("what" : Str)) = false := by simpa using hw
    have q2 : List.lookup f [(("what" : Str), v)] = none := by simp [List.lookup, qw]
    rw [q2]
    trivial
theorem pe_what {X : Cx} {a : Addr} {oe : Obj} {cls : Value} {d : Option Addr} {pn : List (Addr × Obj)} {e : Expr} {te : TE} {pos : Pos} (T : TooT X.K X.mg C fI) (hz : Zc cls d oe) (hf : ∃ vs, oe.data = .fields vs) (he : PE (X.suite a ((a, oe) :: pn)) e te)
    (hb : attributeBase e "what" X.env (eval e X.env) = eval e X.env := by rfl) :
    PE (X.suite a ((a, oe) :: pn)) (.Attribute e "what" pos) (tWhat C a cls d te) := by
  refine ⟨fun pins s σ H Q I h => ?_⟩
  refine attr_of hb (thn (he.run pins s σ H _ I h) fun u s1 hh => ?_)
  obtain ⟨x, H1, I1, rx, ex, ec, dd, v, ed, ea, q⟩ := hh
  subst ex
  obtain rfl : u = Value.ref a := rx
  subst ec
  subst ed
  obtain ⟨ha, _⟩ := I1.pin (a, oe) (List.mem_append_left _ List.mem_cons_self)
  obtain ⟨vs, hd⟩ := hf
  have hx : ObjOk X.prog X.w H1 s1.heap dd (.xd [(("what" : Str), v)]) := I1.hok dd _ ea
  obtain ⟨mA, hns, hr⟩ := hx
  obtain ⟨od, ho, hl⟩ := lookIn_ns hns
  have l : List.lookup ("what" : Str) [(("what" : Str), v)] = some v := by simp [List.lookup]
  obtain ⟨u, hu, ru⟩ := RelO.some_of (v := v) (o := mA "what") (by rw [← l]; exact hr "what")
  have J : PySem.W.InstAt s1.heap a oe C (some od) := ⟨ha, hz.1, by unfold PySem.W.notCls; rw [hd] <;> rfl, by rw [hz.2]; exact ho⟩
  exact PySem.HandSPX.exc_get I1.kIn J T.ga T.gg T.ox.exC (PySem.W.findObj_own T.hdC T.noN rfl (by rw [hl, hu])) (handed_of ru) ⟨v, H1, I1.tok _, ru, q⟩
/-- try: judge_roads(13, ..) except TooMany as error: return error.what == 'houses' -/
theorem gs_many {Γ : Sl} {M : List MO} {E : GEnd} {ta tb : TE} {C : Addr} (te : PySem.W.exmOne K (.ref C) (.ref C) = some true) (h1 : Γ[1]? = some none) (h : GE ta Γ M fun _ M1 => GE tb Γ M1 fun _ M2 => E.rt (.dat (.bool true)) M2) :
    GS (fun D σ H => tDrop (tCallS (spJudgeX C) (WE (wAs K (.ref C) 1 (fun a cls d => tRet (tOp rEq (tWhat C a cls d (tVar 1)) (tC (.str "houses")))) (fun _ _ _ _ => False) D)) (tCons (tC (.int 13)) (tCons ta (tCons tb tNil)))) D σ H) Γ M E := fun F σ H B ps Dn e l =>
  h F σ H B ps _ e fun v2 d2 M1 H1 B1 p1 k1 e1 g1 _ => k1 F σ H1 B1 p1 _ e1 fun v3 d3 M2 H2 B2 p2 k2 e2 g2 _ => by
    refine ⟨⟨v2, v3, rfl⟩, fun d hd => ⟨true, te, fun _ a ha => ?_, fun z => Bool.noConfusion z⟩⟩
    have hlen : 1 < σ.length := by
      have := (List.getElem?_eq_some_iff.1 h1).1
      rw [e.sz] at this
      exact this
    refine ⟨_, List.getElem?_set_self hlen, rfl, rfl, d, _, rfl, upd_same, ?_⟩
    have e3 : Env F (σ.set 1 (some (.ref a))) (upd H2 d (.xd [("what", .str "houses")])) Γ M2 B2 p2 := by
      have e3 : Env F σ (upd H2 d (.xd [("what", .str "houses")])) Γ M2 B2 p2 := e2.grow (Ex.rfl' _) (e2.ex.tr (Ex.new hd)) (fun _ z => .inl z) (Ex.new hd)
      refine e3.slots (by rw [List.length_set]; exact e3.sz) fun i x hi => ?_
      have hne : i ≠ 1 := fun z => by subst z; rw [h1] at hi; cases hi
      obtain ⟨v, hv, r⟩ := e3.sl i x hi
      exact ⟨v, by rw [List.getElem?_set_ne (Ne.symm hne)]; exact hv, r⟩
    refine ⟨rfl, l.rt _ (.dat (.bool true)) _ _ Γ M2 B2 p2 k2 e3 (g1.tr g2) ?_⟩
    rw [decide_eq_true rfl]
    exact .bl true
abbrev s__law_e_many_houses : Stmt := topS 33
theorem sc__law_e_many_houses : FnScope ["source", "error"] ["source"] (defScope s__law_e_many_houses) := ⟨rfl, rfl, rfl, by decide +kernel, rfl, by decide +kernel, by decide +kernel⟩
theorem cal__law_e_many_houses {fdI : FuncData} (D : DefF K mg "_law_e_many_houses" s__law_e_many_houses ["source"]) (T : Txt mg) (C1 : Cal P w K mg base CX0 1 "_law_pick" ["source", "many"] spPick)
    (DJ : DefF K mg "judge_roads" s_judge_roads ["houses", "sets", "verdict"]) (DB : DefF K mg "bound" s_bound ["what", "number"]) (L : LimT K w mg) (TT : TooT K mg C fI) (FI : Fun K "__init__" "TooMany.__init__" s_init fI fdI) :
    Cal P w K mg base CX0 6 "_law_e_many_houses" ["source"] (GSp true (fun _ : Unit => []) (fun _ => True) fun _ r => r = .dat (.bool true)) := by
  obtain ⟨f, fd, F, g, b⟩ := D
  obtain ⟨_, _, G__law_pick, g__law_pick, kp__law_pick, b__law_pick⟩ := C1
  obtain ⟨fJ, fdJ, GJ, gJ, kJ, bJ⟩ := ok_judgeX (P := P) (w := w) (base := base) DJ DB L TT FI
  refine ⟨f, fd, F.ok sc__law_e_many_houses (gsp_len (n := 0) fun _ => rfl) (fun cdv A outer s H vs Q E hr hq => ?_), g, F.kp, b⟩
  refine ⟨_, pss_cons (ps_try_as (i := 1) (tb := fun W => tDrop (tCallS (spJudgeX C) (WE W) (tCons (tC (.int 13)) (tCons _ (tCons _ tNil))))) (ts := fun a cls d => tRet (tOp rEq (tWhat C a cls d (tVar 1)) (tC (.str "houses")))) (Wout := fun _ _ _ _ => False) rfl rfl sc__law_e_many_houses.nd rfl rfl ⟨rfl, by decide, Or.inl TT.gC⟩ takes0
      (fun W pn xe tk _ => pss_one (ps_expr (pe_callS GJ (hr.mono (by decide)) (by rfl) gJ kJ bJ (fun σ => passAt tk σ) (pa_cons pe_int (pa_cons (pe_lst (pa_cons (pe_lst (pa_cons pe_int (pa_cons pe_int pa_nil))) pa_nil)) (pa_cons (pe_ix (k_ixL (K := K) rfl) (pe_lst (pa_cons pe_non (pa_cons (pe_tup (pa_cons pe_str (pa_cons (pe_lst (pa_cons (pe_tup (pa_cons pe_int (pa_cons pe_int pa_nil))) pa_nil)) pa_nil))) pa_nil))) (pe_call G__law_pick (hr.mono (by decide)) (by rfl) g__law_pick kp__law_pick b__law_pick .nil pass0 (pa_cons (pv 0) (pa_cons pe_int pa_nil))) (fun _ _ => rfl)) pa_nil))))))
      (fun a oe cls d pn hz hf => pss_one (ps_ret (pe_cmpR op_eq (pe_what TT hz hf (pv 1)) pe_str (nomark _)))))
    (pss_one (ps_ret pe_bl)), ?_⟩
  refine gsp_body (n := 0) (m := 1) (fun _ => rfl) rfl (fun x _ => ?_) vs H Q E hq
  refine gs_seq ?_
  refine gs_many TT.te rfl ?_
  refine ge_lst (ga_cons (ge_fz ?_))
  repeat walk_at "h"
  refine fz_new ?_
  refine ga_nil ?_
  refine ⟨[_], rfl, (show 1 ≤ 100000 by decide), ?_⟩
  refine ge_ov (ge_lst (ga_cons (ge_fz ?_)))
  repeat walk_at "h"
  refine fz_dat ?_
  refine ga_cons (ge_fz ?_)
  refine ge_tup (ga_cons (ge_fz ?_))
  repeat walk_at "h"
  refine fz_dat ?_
  refine ga_cons (ge_fz ?_)
  repeat walk_at "h"
  refine fz_new ?_
  repeat walk_at "h"
  refine fz_dat ?_
  repeat walk_at "h"
  refine ⟨0, _, 2, rfl, rfl, .cons rfl .nil, ⟨by decide, by decide⟩, ?_⟩
  rintro _ ⟨y, y0, y1, rfl⟩
  have y1 : y < 2 := y1
  refine rp_d ?_
  obtain ⟨v, av⟩ : ∃ v : PyData, atI [PyData.none, .tuple [.str "tree", .list [.tuple [.int 1, .int 2]]]] y = some v := by
    have : y = 0 ∨ y = 1 := by omega
    rcases this with e | e <;> subst e <;> exact ⟨_, rfl⟩
  exact ⟨_, ov_ixL rfl av, rt_dS rfl rfl⟩
end
end K99

namespace K99
open PySem PySem.Spec PyProof.Rows L2 GL Gr
local macro_rules | `(tactic| walk_at "g") => `(tactic| first
  | (with_reducible refine gs_seq ?_)
  | (with_reducible refine gs_set ?_)
  | (with_reducible refine gs_ret ?_)
  | (with_reducible refine gs_if ?_)
  | (with_reducible refine gs_drop ?_)
  | (with_reducible refine gs_next ?_)
  | ((with_reducible refine ge_var (d := ?dv) ?hv ?pv); (case hv => exact rfl))
  | (with_reducible refine ge_int ?_)
  | (with_reducible refine ge_bl ?_)
  | (with_reducible refine ge_str ?_)
  | (with_reducible refine ge_non ?_)
  | (with_reducible refine ge_cat ?_)
  | (with_reducible refine ge_ov ?_)
  | (with_reducible refine og_ov ?_)
  | (with_reducible refine ge_chain3 ?_)
  | (with_reducible refine ge_listRg1 ?_)
  | (with_reducible refine ge_isi ?_)
  | (with_reducible refine ge_isi2 ?_)
  | (with_reducible refine ge_cb ?_)
  | (with_reducible refine ga_nil ?_)
  | (with_reducible refine ga_cons ?_)
  | (with_reducible refine ge_andV ?_)
  | (with_reducible refine ge_orV ?_)
  | (with_reducible refine ge_notV ?_)
  | (with_reducible refine ge_isN ?_)
  | (with_reducible refine ge_notN ?_)
  | (with_reducible refine ge_if ?_)
  | (with_reducible refine ge_tup ?_)
  | (with_reducible refine ge_lst ?_)
  | (with_reducible refine ge_slL ?_)
  | (with_reducible refine ge_slT ?_)
  | (with_reducible refine go_none ?_)
  | (with_reducible refine go_some ?_)
  | (with_reducible refine gt_test ?_)
  | (with_reducible refine gt_B ?_)
  | (with_reducible refine gt_and ?_)
  | (with_reducible refine gt_or ?_)
  | (with_reducible refine gt_not ?_)
  | (with_reducible refine gi_list ?_)
  | (with_reducible refine gi_tup ?_)
  | (with_reducible refine gi_rng1 ?_)
  | (with_reducible refine gi_rng2 ?_)
  | (with_reducible refine gi_rng3 ?_)
  | (with_reducible refine gi_enum ?_)
  | (with_reducible refine gi_zipT ?_)
  | (with_reducible refine gs_asg _ ?_)
  | (with_reducible refine gg_name (by decide) ?_)
  | ((with_reducible refine gg_tup ?hn ?hg); (case hn => exact rfl))
  | (with_reducible refine ggs_cons ?_)
  | (with_reducible refine ggs_nil ?_)
  | (with_reducible refine ge_append ?_)
  | (with_reducible refine ge_popAt ?_)
  | (with_reducible refine ge_dget ?_)
  | (with_reducible refine ge_din ?_)
  | (with_reducible refine ge_dnotin ?_)
  | (with_reducible refine gs_dput ?_)
  | (with_reducible refine ge_call ?_)
  | (with_reducible refine ge_callS ?_)
  | (refine ⟨_, ov_I0i, ?_⟩)
  | (refine ⟨_, ov_I0b, ?_⟩)
  | (refine ⟨_, ov_isin rfl, ?_⟩)
  | (refine ⟨_, ov_notin rfl, ?_⟩)
  | (refine ⟨_, ov_eq rfl, ?_⟩)
  | (refine ⟨_, ov_ne rfl, ?_⟩)
  | (refine cg_len (.inl rfl) ?_)
  | (refine cg_len (.inr rfl) ?_)
  | (refine ⟨_, ov_ixT rfl rfl, ?_⟩)
  | (refine ⟨_, ov_ixL rfl rfl, ?_⟩)
  | (refine ⟨_, ov_ixT rfl (atI_nat (j := 0) rfl), ?_⟩)
  | (refine ⟨_, ov_ixL rfl (atI_nat (j := 0) rfl), ?_⟩)
  | (refine ⟨_, ov_ixT rfl (atI_nat (j := 1) rfl), ?_⟩)
  | (refine ⟨_, ov_ixL rfl (atI_nat (j := 1) rfl), ?_⟩)
  | (refine ⟨_, ov_ixT rfl (atI_nat (j := 2) rfl), ?_⟩)
  | (refine ⟨_, ov_ixL rfl (atI_nat (j := 2) rfl), ?_⟩)
  | (refine ⟨_, ov_ixT rfl (atI_nat (j := 3) rfl), ?_⟩)
  | (refine ⟨_, ov_ixL rfl (atI_nat (j := 3) rfl), ?_⟩)
  | (refine ⟨_, _, rfl, kit_int _, ?_⟩)
  | (refine ⟨_, _, rfl, kit_bool _, ?_⟩)
  | (refine ⟨_, _, rfl, kit_str _, ?_⟩)
  | (refine ⟨_, _, rfl, kit_tuple _, ?_⟩)
  | (refine ⟨_, _, rfl, kit_list _, ?_⟩)
  | (refine ⟨_, _, rfl, kit_dict _, ?_⟩)
  | (refine ⟨_, _, rfl, kit_lt _, ?_⟩)
  | (refine ⟨_, rfl, ?_⟩))
local macro_rules | `(tactic| walk_at "t") => `(tactic| first
  | (with_reducible refine gg_name (by decide) ?_)
  | ((with_reducible refine gg_tup ?hn ?hg); (case hn => exact rfl))
  | (with_reducible refine ggs_cons ?_)
  | (with_reducible refine ggs_nil ?_))

local macro_rules | `(tactic| walk_at "h") => `(tactic| first
  | (with_reducible refine ge_kdict ?_)
  | walk_at "g"
  | (with_reducible refine gs_setS ?_)
  | (refine ⟨_, ov_ixS rfl rfl, ?_⟩)
  | (refine ⟨_, ov_Ii (C := CMul) (.inr ⟨by decide, by decide⟩), ?_⟩)
  | (refine ⟨_, ov_Ii (C := fun _ j => j ≠ 0) (by decide), ?_⟩)
  | (refine ⟨_, ov_Ii (C := CDivN) ⟨by decide, by decide⟩, ?_⟩)
  | (refine ⟨_, ov_Ii (C := CPow) ⟨by decide, by decide, by decide⟩, ?_⟩)
  | (refine ⟨[_], rfl, (show 1 ≤ 100000 by decide /-tup2-/), ?_⟩)
  | (refine ⟨[_, _], rfl, (show 2 ≤ 100000 by decide), ?_⟩)
  | (refine ⟨[_, _, _], rfl, (show 3 ≤ 100000 by decide), ?_⟩)
  | (refine ⟨[_, _, _, _], rfl, (show 4 ≤ 100000 by decide), ?_⟩)
  | (refine ⟨_, _, rfl, rfl, ?_⟩)
  | (refine ⟨_, _, rfl, ?_⟩))
local macro_rules | `(tactic| walk_at "s") => `(tactic| first
  | (with_reducible refine gs_retS 0 ?_)
  | walk_at "h")

def Keep (H H' : Hp) : Prop := ∀ b o, H b = some o → H' b = some o
theorem sql_keep {K : PySem.W.Frag} {H H' : Hp} {a : Addr} {xs : List V} (k : Keep H H') (h : SqL K H a xs) : SqL K H' a xs :=
  h.imp (fun h => h.imp (k a _) fun ⟨o, z⟩ => ⟨o, k a _ z⟩) id
/-- script is any list that the judge gives -/
def spSrcK (K : PySem.W.Frag) : Sp := fun vs H Q _ => ∃ (a : Addr) (i : Int) (ns : List Int), vs = [.ref a, .int i] ∧ SqL K H a (ns.map V.int) ∧ ns.length ≤ 63 ∧
  ∀ (p : Addr) (H' : Hp) (x y z : Int), H p = none → H' p = some (.lst [.int x, .int y, .int z]) → Keep H H' → Q (.ref p) H'
abbrev eSrc : GEnd := { nx := fun _ _ => False, rt := fun d M => ∃ (k : Nat) (x y z : Int), d = .ref k ∧ M[k]? = some (.lst [.int x, .int y, .int z]) }
theorem src_run {K : PySem.W.Frag} {te1 te2 : TE} {g : TG} {t3 : TS} {H : Hp} {a : Addr} {at_ : Int} {ns : List Int} {Q : VK} (hS : SqL K H a (ns.map V.int)) (hl : ns.length ≤ 63)
    (hQ : ∀ (p : Addr) (H' : Hp) (x y z : Int), H p = none → H' p = some (.lst [.int x, .int y, .int z]) → Keep H H' → Q (.ref p) H')
    (h1 : GE te1 [none, some (.dat (.int at_)), none, none, none, none, none] [] fun d M' => M' = [] ∧ ∃ L : Int, L ≠ 0 ∧ d = .dat (.int L))
    (h2 : ∀ (L : Int) (m : MO), L ≠ 0 → ∀ x : Int, GG g [5] (.dat (.int x)) (wipeG [none, some (.dat (.int at_)), some (.dat (.int L)), none, none, none, none] [5]) fun Γ2 => GE te2 Γ2 [m] fun y M4 => PreM [m] M4 ∧ asDat 1 M4 y (.int (x.fmod L)))
    (h3 : ∀ (L : Int) (cs : List Int), cs.length ≤ 63 → GS t3 [none, some (.dat (.int at_)), some (.dat (.int L)), some (.dat (.list (cs.map .int))), none, none, none] [] eSrc) :
    tSeq (tAsg te1 (gName 2)) (tSeq (tAsg (tLc (iList K (tSl (rSlL K) (tVar 0) tNoPart (tPart (tC (.int 63))))) g tYes te2 [5]) (gName 3)) t3) { nx := fun _ H' => Q .non H', rt := Q } [some (.ref a), some (.int at_), none, none, none, none, none] H := by
  have e0 : Env ⟨H, fun _ => none, fun _ => False⟩ [some (.ref a), some (.int at_), none, none, none, none, none] H [none, some (.dat (.int at_)), none, none, none, none, none] [] (fun _ => none) [] := by
    refine ⟨fun _ _ z => (by cases z), Ex.rfl' _, fun _ _ z => z, fun _ _ z _ => z, fun _ z => z.elim, rfl, fun k p z => by simp at z, fun k p m z => by simp at z, fun k p m z => by simp at z, rfl, fun i d z => ?_⟩
    match i, z with
    | 1, z => cases z; exact ⟨_, rfl, .int _⟩
    | 0, z => cases z
    | 2, z => cases z
    | 3, z => cases z
    | 4, z => cases z
    | 5, z => cases z
    | 6, z => cases z
    | i + 7, z => cases z
  refine h1 _ _ _ _ _ _ e0 fun v d M1 H1 B1 p1 ⟨eM, L, hL, ed⟩ e1 g1 v1 => ?_
  subst eM; subst ed
  cases v1
  have e2 := e1.set (i := 2) (v := .int L) (d := .dat (.int L)) (.int L)
  have hS1 : SqL K H1 a (ns.map V.int) := sql_keep (fun b o z => e1.fr b o z id) hS
  obtain ⟨n, m, ec⟩ := cut_map PyData.int ns none (some 63)
  have hlen : ((ns.drop n).take m).length ≤ 63 := by
    rw [List.length_take, List.length_drop]; omega
  generalize ((ns.drop n).take m) = xs at ec hlen
  have hG : GE (tLc (iList K fun σ' H' Q' => (σ' = [some (.ref a), some (.int at_), some (.int L), none, none, none, none] ∧ H' = H1) → tSl (rSlL K) (tVar 0) tNoPart (tPart (tC (.int 63))) σ' H' Q') g tYes te2 [5])
      [none, some (.dat (.int at_)), some (.dat (.int L)), none, none, none, none] [] fun d M' => PreM [] M' ∧ ∃ x, asDat 0 M' d x ∧ x = .list ((xs.map fun x => x.fmod L).map .int) := by
    refine ge_lcMap xs PyData.int (fun x => PyData.int (x.fmod L)) (gi_list ?_)
    intro F σ H B ps Q' e q
    rintro ⟨rfl, rfl⟩
    refine ⟨_, rfl, 63, rfl, a, ns.map V.int, rfl, hS1, fun l hl0 => ?_⟩
    obtain ⟨e4, g4⟩ := e.push (o := .lst (L2.cutV (ns.map V.int) none (some 63))) (m := .lst (GL.cutD (ns.map .int) none (some 63))) hl0 ⟨_, upd_same, cut_rp (RpA.ofInts ns) none (some 63)⟩
    refine q _ (.ref 0) _ _ _ _ ?_ e4 g4 ⟨l, (by have := e.len; cases ps with | nil => rfl | cons _ _ => cases this), rfl⟩
    refine ⟨_, rfl, rfl, ec, by omega, fun x _ => h2 L _ hL x, PreM.app _ [_, _], _, ⟨Nat.zero_le _, _, rfl, rfl⟩, ?_⟩
    rw [List.map_map] <;> rfl
  have run := ge_fz (P := fun d M' => M' = [] ∧ d = .dat (.list ((xs.map fun x => x.fmod L).map .int))) (hG.mono fun d M' ⟨z1, x, z2, z3⟩ => ⟨z1, x, z2, rfl, by rw [z3]⟩) _ _ _ _ _ (fun v H2 => t3 { nx := fun _ H' => Q .non H', rt := Q } ([some (.ref a), some (.int at_), some (.int L), none, none, none, none].set 3 (some v)) H2) e2
  refine (run fun v d M2 H2 B2 p2 ⟨eM, ed⟩ e3 g3 v3 => ?_ : (_ ∧ _) → _) ⟨rfl, rfl⟩
  subst eM; subst ed
  have e4 := e3.set (i := 3) v3
  have hcs : (xs.map fun x => x.fmod L).length ≤ 63 := by rw [List.length_map]; exact hlen
  refine h3 L _ hcs _ _ _ _ _ _ e4 ⟨fun _ _ _ _ _ _ z => z.elim, ?_, fun _ _ _ _ _ _ z => z.elim, fun _ _ _ _ _ _ z => z.elim⟩
  rintro v d σ H' Γ M B' ps' ⟨k, x, y, z, rfl, hk⟩ e' g' hv
  obtain ⟨p, hp, rfl⟩ := hv
  obtain ⟨us, hu, ru⟩ := e'.mo k p _ hp hk
  have : us = [V.int x, V.int y, V.int z] := RpA.ints (ns := [x, y, z]) ru
  subst this
  have ow := (e'.own k p _ hp hk rfl).2.1
  exact hQ p H' x y z (ow.elim id fun z => z.1.elim) hu fun b o z => e'.fr b o z id
section
variable {P : Program} {w : World} {K : PySem.W.Frag} {mg : Str → Option Value} {base : Heap}
theorem cal_srcK (D : DefF K mg "_law_source" s__law_source ["script", "at"]) (T : Txt mg) : Cal P w K mg base CX0 1 "_law_source" ["script", "at"] (spSrcK K) := by
  obtain ⟨f, fd, F, g, b⟩ := D
  refine ⟨f, fd, F.ok sc__law_source (fun vs H Q E h => ?_) (fun cdv A outer s H vs Q E hr h => ?_), g, F.kp, b⟩
  · obtain ⟨a, i, ns, rfl, _⟩ := h
    rfl
  refine ⟨_, (pss_cons (ps_set (i := 2) sc__law_source.nd rfl (Or.inr rfl) (pe_op op_mulW (pe_op op_mulW (pe_op op_mulW (pe_op op_mulW (pe_op op_mulW (pe_op op_pow pe_int pe_int) (pe_op op_pow pe_int pe_int)) (pe_op op_pow pe_int pe_int)) (pe_op op_pow pe_int pe_int)) (pe_op op_pow pe_int pe_int)) (pe_op op_pow pe_int pe_int))) (pss_cons (ps_setLc (i := 3) (own := [("cell", 5)]) (by rfl) sc__law_source.nd rfl rfl (sw_true rfl rfl rfl (by decide +kernel)) (k_pil (K := K) rfl (pe_slice (k_slL (K := K) rfl) (pv 0) po_none (po_some pe_int))) (blkOk_by (own := [("cell", 5)]) (N := ["script", "at", "limit", "cells", "state", "cell", "great"]) (sc := defScope s__law_source) (by decide +kernel)) (fun _ _ _ _ _ => (pg_name (i := 5) sc__law_source.nd rfl (Or.inl rfl))) (fun _ _ _ _ _ => pts_nil) (fun _ _ _ _ _ => (pe_op op_modN (pe_callTy call_int1 (by rfl) T.int_ (by decide +kernel) (pa_cons (pv 5) pa_nil)) (pv 2)))) (pss_cons (ps_set (i := 4) sc__law_source.nd rfl (Or.inl rfl) (pe_op op_add pe_int (pe_op op_mul (pv 1) pe_int))) (pss_cons (ps_for PassesOwn.never rfl (k_pil (K := K) rfl (pv 3)) (pg_name (i := 5) sc__law_source.nd rfl (Or.inl rfl)) (pss_one (ps_set (i := 4) sc__law_source.nd rfl (Or.inl rfl) (pe_op op_modN (pe_op op_add (pe_op op_add (pe_op op_mul (pv 4) pe_int) (pe_op op_modN (pv 5) pe_int)) pe_int) pe_int)))) (pss_cons (ps_set (i := 6) sc__law_source.nd rfl (Or.inl rfl) (pe_ifExp (pt_cmpR op_gt (pe_callB (k_len (K := K) rfl) (by rfl) T.len_ (by decide +kernel) (pa_cons (pv 3) pa_nil)) pe_int (nomark _)) (pe_ix (k_ixL (K := K) rfl) (pv 3) (pe_op op_modN (pv 1) (pe_callB (k_len (K := K) rfl) (by rfl) T.len_ (by decide +kernel) (pa_cons (pv 3) pa_nil))) (fun _ _ => rfl)) pe_int)) (pss_one (ps_ret (pe_lst (pa_cons (pe_ifExp (pt_cmpR op_ge (pv 6) (pe_op op_pow pe_int pe_int) (nomark _)) (pv 6) pe_int) (pa_cons (pv 4) (pa_cons (pe_op op_modN (pv 1) pe_int) pa_nil))))))))))), ?_⟩
  obtain ⟨a, at_, ns, rfl, hS, hl, hQ⟩ := h
  refine src_run hS hl hQ ?_ ?_ ?_
  · repeat (first | walk_at "h" | (refine ⟨_, ov_Ii (C := CMulW) (by unfold CMulW; decide +kernel), ?_⟩))
    exact ⟨rfl, _, by decide +kernel, rfl⟩
  · intro L m hL x
    repeat walk_at "h"
    refine cg_int1 ?_
    repeat walk_at "h"
    refine ⟨_, ov_Ii (C := fun _ j => j ≠ 0) hL, ?_⟩
    exact ⟨PreM.rf _, rfl⟩
  · intro L cs hcl
    repeat walk_at "h"
    refine gs_for [5] ?_
    repeat walk_at "h"
    refine ⟨fun i Γ M => ∃ (st : Int) (o5 : Option D), Γ = [none, some (.dat (.int at_)), some (.dat (.int L)), some (.dat (.list (cs.map .int))), some (.dat (.int st)), o5, none] ∧ M = [], ⟨_, _, rfl, rfl⟩, fun _ _ _ _ => rfl, ?_, ?_⟩
    · rintro i d Γ M hd ⟨st, o5, rfl, rfl⟩
      obtain ⟨c, hc, rfl⟩ := mp_at hd
      repeat walk_at "t"
      repeat walk_at "h"
      rfl
    · rintro Γ M ⟨st, o5, rfl, rfl⟩
      repeat walk_at "h"
      rw [List.length_map]
      refine ⟨fun z => ?_, fun _ => ?_⟩
      · have z := of_decide_eq_true z
        repeat walk_at "h"
        rw [List.length_map]
        refine ⟨_, ov_Ii (C := fun _ j => j ≠ 0) (by omega), ?_⟩
        have hk := fmod_at at_ (m := (cs.length : Int)) (by omega)
        have hlt : (at_.fmod (cs.length : Int)).toNat < cs.length := by omega
        refine ⟨_, ov_ixL rfl (at_int (v := PyData.int cs[(at_.fmod (cs.length : Int)).toNat]) hk.1 (by rw [List.getElem?_map, List.getElem?_eq_getElem hlt] <;> rfl)), ?_⟩
        repeat walk_at "h"
        refine ⟨fun _ => ?_, fun _ => ?_⟩
        · repeat walk_at "h"
          exact ⟨0, _, _, _, rfl, rfl⟩
        · repeat walk_at "h"
          exact ⟨0, _, _, _, rfl, rfl⟩
      · repeat walk_at "h"
        refine ⟨fun _ => ?_, fun _ => ?_⟩
        · repeat walk_at "h"
          exact ⟨0, _, _, _, rfl, rfl⟩
        · repeat walk_at "h"
          exact ⟨0, _, _, _, rfl, rfl⟩
theorem sql_step {H H2 H3 : Hp} {a p : Addr} {xs : List V} (h : SqL K H a xs) (hp : H p = none) (hk : Keep H H2) (fr : ∀ b o, H2 b = some o → some p ≠ some b → H3 b = some o) : SqL K H3 a xs := by
  rcases h with h | h
  · have hne : some p ≠ some a := fun z => by
      cases z
      rcases h with h | ⟨o, h⟩ <;> rw [hp] at h <;> cases h
    exact .inl (h.imp (fun z => fr a _ (hk a _ z) hne) fun ⟨o, z⟩ => ⟨o, fr a _ (hk a _ z) hne⟩)
  · exact .inr h
abbrev spMany : Sp := GSp true (fun _ : Unit => []) (fun _ => True) fun _ r => r = .dat (.bool true)
def spLawK (K : PySem.W.Frag) : Sp := fun vs H Q _ => ∃ (a : Addr) (ns : List Int), vs = [.ref a] ∧ SqL K H a (ns.map V.int) ∧ ns.length ≤ 63 ∧ ∀ H', Q (.bl true) H'
abbrev s_law : Stmt := topS 34
theorem sc_law : FnScope ["script", "at", "source"] ["script"] (defScope s_law) := ⟨rfl, rfl, rfl, by decide +kernel, rfl, by decide +kernel, by decide +kernel⟩
theorem ok_law {f : Addr} {fd : FuncData} (F : Fun K "law" "law" s_law f fd) (T : Txt mg) (C1 : Cal P w K mg base CX0 1 "_law_source" ["script", "at"] (spSrcK K)) (C2 : Cal P w K mg base CX0 1 "_law_pick" ["source", "many"] spPick)
    (C3 : Cal P w K mg base CX0 5 "_law_e_roads" ["source"] spRoads) (C4 : Cal P w K mg base CX0 6 "_law_e_many_houses" ["source"] spMany) : FnOk P w K mg base CX0 7 f fd ["script"] (spLawK K) := by
  obtain ⟨_, _, G__law_source, g__law_source, kp__law_source, b__law_source⟩ := C1
  obtain ⟨_, _, G__law_pick, g__law_pick, kp__law_pick, b__law_pick⟩ := C2
  obtain ⟨_, _, G__law_e_roads, g__law_e_roads, kp__law_e_roads, b__law_e_roads⟩ := C3
  obtain ⟨_, _, G__law_e_many_houses, g__law_e_many_houses, kp__law_e_many_houses, b__law_e_many_houses⟩ := C4
  refine F.ok sc_law (fun vs H Q E h => ?_) (fun cdv A outer s H vs Q E hr h => ?_)
  · obtain ⟨a, ns, rfl, _⟩ := h
    rfl
  refine ⟨_, (pss_cons (ps_for PassesOwn.never rfl (pi_range1 (by rfl) T.range_ (pa_cons pe_int pa_nil)) (pg_name (i := 1) sc_law.nd rfl (Or.inl rfl)) (pss_one (ps_if (pt_not (pt_val (pe_call G__law_e_roads (hr.mono (by decide)) (by rfl) g__law_e_roads kp__law_e_roads b__law_e_roads .nil pass0 (pa_cons (pe_call G__law_source (hr.mono (by decide)) (by rfl) g__law_source kp__law_source b__law_source .nil pass0 (pa_cons (pv 0) (pa_cons (pv 1) pa_nil))) pa_nil)))) (pss_one (ps_ret pe_bl)) pss_nil))) (pss_cons (ps_set (i := 2) sc_law.nd rfl (Or.inl rfl) (pe_call G__law_source (hr.mono (by decide)) (by rfl) g__law_source kp__law_source b__law_source .nil pass0 (pa_cons (pv 0) (pa_cons pe_int pa_nil)))) (pss_one (ps_ret (pe_or (pe_cmpR op_gt (pe_call G__law_pick (hr.mono (by decide)) (by rfl) g__law_pick kp__law_pick b__law_pick .nil pass0 (pa_cons (pv 2) (pa_cons pe_int pa_nil))) pe_int (nomark _)) (pe_one (pe_call G__law_e_many_houses (hr.mono (by decide)) (by rfl) g__law_e_many_houses kp__law_e_many_houses b__law_e_many_houses .nil pass0 (pa_cons (pv 2) pa_nil)))))))), ?_⟩
  obtain ⟨a, ns, rfl, hS, hl, hQ⟩ := h
  have exN : ∀ H : Hp, Ex (fun _ => none) H := fun H b o z => by cases z
  refine ⟨2, rfl, by decide, by decide, for_range (fun i σ H' => ∃ v1, σ = [some (.ref a), v1, none] ∧ SqL K H' a (ns.map V.int)) ⟨none, rfl, hS⟩ ?_ ?_⟩
  · rintro i σ H' hi ⟨v1, rfl, hS'⟩
    refine ⟨_, rfl, _, rfl, a, 0 + (i : Int), ns, rfl, hS', hl, fun p H2 x y z hp hp2 hk => ?_⟩
    refine ⟨fun _ => none, some p, [], (), exN _, ⟨p, rfl, rfl, rfl, x, y, z, hp2⟩, .nil, trivial, fun v H3 B3 r er af hro => ?_⟩
    subst er
    cases hro
    refine ⟨true, rfl, ?_⟩
    exact ⟨_, rfl, sql_step hS' hp hk af.fr⟩
  · rintro σ H' ⟨v1, rfl, hS'⟩
    refine ⟨_, rfl, a, 2, ns, rfl, hS', hl, fun p H2 x y z hp hp2 hk => ?_⟩
    refine ⟨_, rfl, fun _ => none, some p, [.int 6], 6, exN _, ⟨p, rfl, rfl, rfl, x, y, z, hp2⟩, .cons (.int 6) .nil, ⟨by decide, by decide⟩, fun v H3 B3 r er af hro => ?_⟩
    obtain ⟨y, y0, y1, rfl⟩ := er
    cases hro
    refine ⟨y, 0, rfl, rfl, _, rfl, ?_⟩
    split
    · exact hQ _
    · refine ⟨_, rfl, fun _ => none, some p, [], (), exN _, ⟨p, rfl, rfl, rfl, af.sr p rfl⟩, .nil, trivial, fun v H4 B4 r er af2 hro => ?_⟩
      subst er
      cases hro
      exact hQ _
end
end K99

namespace K99
open PySem PySem.Spec PyProof.Rows L2 GL Gr
section
variable {P : Program} {w : World} {K : PySem.W.Frag} {mg : Str → Option Value} {h : Heap}
theorem def_mk {x : Str} {st : Stmt} {ps : List Str} {f : Addr} {oc : Value} {od an : Option Addr} {sl : Array (Option Value)} {kV dc pm cd ct : Value} (X : K.In h) (G : h.Ns mainGlobals mg) (a : PySem.W.nsIn K mainGlobals x = some (some (.ref f)))
    (l : K.lookup f = some ⟨oc, od, .func (PySem.W.fnOf x x (defArgs st) (defBody st) (defScope st) .none kV dc pm an cd ct), sl⟩) (c : PySem.W.codeIn K cd x = true) (k : PySem.W.keepIn K (.ref f) = true) (b : ∀ fd, Fun K x x st f fd → Binds K fd ps []) : DefF K mg x st ps :=
  ⟨f, _, fun_mk l c k, PySem.W.mg_of X G a, b _ (fun_mk l c k)⟩
theorem own_meets {K : PySem.W.Frag} {S : Addr} (h1 : PySem.W.subIn K (.ref S) (.type "BaseException") = some true) (h2 : PySem.W.isClsIn K S = true) (h3 : PySem.W.typeIn K (.ref S) = some (.type "type")) (h4 : PySem.W.subIn K (.ref S) (.ref S) = some true) :
    PySem.W.exmOne K (.ref S) (.ref S) = some true := by
  have e1 : (PySem.W.subIn K (.ref S) (.type "BaseException") == some true) = true := by rw [h1] <;> rfl
  have e2 : ((PySem.W.clsIn K S).isSome && PySem.W.typeIn K (.ref S) == some (.type "type")) = true := by
    have h2' : (PySem.W.clsIn K S).isSome = true := h2
    rw [h2', h3] <;> rfl
  show (if (PySem.W.subIn K (.ref S) (.type "BaseException") == some true) = true then (if ((PySem.W.clsIn K S).isSome && PySem.W.typeIn K (.ref S) == some (.type "type")) = true then PySem.W.subIn K (.ref S) (.ref S) else none) else none) = some true
  rw [if_pos e1, if_pos e2]
  exact h4
theorem too_mk {C fI S : Addr} {nm q : Str} {N : Addr} {bs : List Value} {sn : List Str} {sub : List Value} {ab : Bool} {col : Option Bool} {dd : Option Addr} {m0 m1 m2 m3 m5 : Option Value} (X : K.In h) (G : h.Ns mainGlobals mg)
    (aC : PySem.W.nsIn K mainGlobals "TooMany" = some (some (.ref C)))
    (xL : K.lookup C = some (excClassObj nm q C N bs [.ref S, .type "ValueError", .type "Exception", .type "BaseException", .type "object"] true sn sub ab col dd m0 m1 m2 m3 m5 "ValueError.__new__"))
    (sa : PySem.W.findIn K (.ref C) "__setattr__" = some (some (.builtin "object.__setattr__"))) (ga : PySem.W.findIn K (.ref C) "__getattribute__" = some (some (.builtin "BaseException.__getattribute__"))) (gg : PySem.W.findIn K (.ref C) "__getattr__" = some none) (nb : PySem.W.findIn K (.ref C) "what" = some none)
    (iC : PySem.W.findIn K (.ref C) "__init__" = some (some (.ref fI))) (tI : PySem.W.typeIn K (.ref fI) = some (.type "function"))
    (kC : PySem.W.keepIn K (.ref C) = true) (eC : PySem.W.subIn K (.ref C) (.type "BaseException") = some true) (tC : PySem.W.typeIn K (.ref C) = some (.type "type")) (hC : PySem.W.hasDictIn K C = true) (jC : PySem.W.isClsIn K C = true) (sC : PySem.W.subIn K (.ref C) (.ref C) = some true) : TooT K mg C fI :=
  { gC := PySem.W.mg_of X G aC, ox := ⟨⟨nm, q, N, bs, _, sn, sub, ab, col, dd, m0, m1, m2, m3, m5, xL, show PySem.HandSPX.refsVE [.type "ValueError", .type "Exception", .type "BaseException", .type "object"] = true by decide +kernel⟩, sa, eC, tC, kC⟩,
    iC := iC, tI := tI, ga := ga, gg := gg, noN := nb, hdC := hC, te := own_meets eC jC tC sC }
theorem init_mk {fI : Addr} {oc : Value} {od an : Option Addr} {sl : Array (Option Value)} {kV dc pm cd ct : Value} (l : K.lookup fI = some ⟨oc, od, .func (PySem.W.fnOf "__init__" "TooMany.__init__" (defArgs s_init) (defBody s_init) (defScope s_init) .none kV dc pm an cd ct), sl⟩)
    (c : PySem.W.codeIn K cd "TooMany.__init__" = true) (k : PySem.W.keepIn K (.ref fI) = true) : ∃ fdI, Fun K "__init__" "TooMany.__init__" s_init fI fdI := ⟨_, fun_mk l c k⟩
theorem lim_mk {D : Addr} {tk : Tok} {es : Array DictEntry} {n : Nat} (X : K.In h) (G : h.Ns mainGlobals mg) (a : PySem.W.nsIn K mainGlobals "LIMITS" = some (some (.ref D))) (l : K.lookup D = some ⟨.type "dict", none, .dict es n, #[]⟩) (b : PySem.W.nsIn K D "houses" = some (some (.int 12 tk))) (kl : PySem.W.KeysLit w.params es.toList) : LimT K w mg :=
  ⟨D, PySem.W.mg_of X G a, es, n, .int 12 tk, l, kl, b, ⟨tk, rfl⟩⟩
theorem all99 {fa C fI : Addr} {fdI : FuncData} (hfa : mg "law" = some (.ref fa)) (T : Txt mg) (L : LimT K w mg) (TT : TooT K mg C fI) (FI : Fun K "__init__" "TooMany.__init__" s_init fI fdI)
    (D_bound : DefF K mg "bound" s_bound ["what", "number"])
    (D_is_whole : DefF K mg "is_whole" s_is_whole ["thing"])
    (D_is_listed : DefF K mg "is_listed" s_is_listed ["thing"])
    (D_is_road_row : DefF K mg "is_road_row" s_is_road_row ["thing"])
    (D_roads_fault : DefF K mg "roads_fault" s_roads_fault ["houses", "roads"])
    (D_hangs_together : DefF K mg "hangs_together" s_hangs_together ["members", "roads"])
    (D_road_weight : DefF K mg "road_weight" s_road_weight ["sets", "a", "b"])
    (D_least_on_way : DefF K mg "least_on_way" s_least_on_way ["roads", "weights", "a"])
    (D_lighter_fault : DefF K mg "lighter_fault" s_lighter_fault ["houses", "sets", "roads"])
    (D_none_fault : DefF K mg "none_fault" s_none_fault ["houses", "sets", "verdict"])
    (D_is_roads_verdict : DefF K mg "is_roads_verdict" s_is_roads_verdict ["verdict"])
    (D_judge_roads : DefF K mg "judge_roads" s_judge_roads ["houses", "sets", "verdict"])
    (D__law_source : DefF K mg "_law_source" s__law_source ["script", "at"])
    (D__law_pick : DefF K mg "_law_pick" s__law_pick ["source", "many"])
    (D__law_shuffled : DefF K mg "_law_shuffled" s__law_shuffled ["source", "things"])
    (D__law_same : DefF K mg "_law_same" s__law_same ["answer", "due"])
    (D__law_tree_roads : DefF K mg "_law_tree_roads" s__law_tree_roads ["source", "many"])
    (D__law_reach : DefF K mg "_law_reach" s__law_reach ["roads", "start"])
    (D__law_e_is_roads : DefF K mg "_law_e_is_roads" s__law_e_is_roads ["thing"])
    (D__law_e_weight : DefF K mg "_law_e_weight" s__law_e_weight ["sets", "a", "b"])
    (D__law_e_none_due : DefF K mg "_law_e_none_due" s__law_e_none_due ["houses", "sets", "verdict"])
    (D__law_e_roads_due : DefF K mg "_law_e_roads_due" s__law_e_roads_due ["houses", "sets", "verdict"])
    (D__law_e_hangs : DefF K mg "_law_e_hangs" s__law_e_hangs ["members", "roads"])
    (D__law_e_roads : DefF K mg "_law_e_roads" s__law_e_roads ["source"])
    (D__law_e_many_houses : DefF K mg "_law_e_many_houses" s__law_e_many_houses ["source"])
    (D_law : DefF K mg "law" s_law ["script"]) :
    ∃ fd : FuncData, (∀ (s : Shared) (v : Value), BindsTo s fd ⟨[v], []⟩ [("script", v)]) ∧ ∀ base : Heap, K.In base → base.Ns mainGlobals mg → FnOk P w K mg base CX0 7 fa fd ["script"] (spLawK K) := by
  obtain ⟨f, fd, F, g, b⟩ := D_law
  cases hfa.symm.trans g
  have ok : ∀ base : Heap, FnOk P w K mg base CX0 7 fa fd ["script"] (spLawK K) := fun base => by
    have c_whole := cal_is_whole (P := P) (w := w) (base := base) D_is_whole T
    have c_listed := cal_is_listed (P := P) (w := w) (base := base) D_is_listed T
    have c_row := cal_is_road_row (P := P) (w := w) (base := base) D_is_road_row T c_whole
    have c_verdict := cal_is_roads_verdict D_is_roads_verdict T c_whole c_listed c_row
    have c_weight := cal_road_weight (P := P) (w := w) (base := base) D_road_weight T
    have c_least := cal_least_on_way (P := P) (w := w) (base := base) D_least_on_way T
    have c_lighter := cal_lighter_fault D_lighter_fault T c_weight c_least
    have c_none := cal_none_fault D_none_fault T c_weight c_lighter
    have c_bound := cal_bound (P := P) (w := w) (base := base) D_bound T L
    have c_fault := cal_roads_fault (P := P) (w := w) (base := base) D_roads_fault T
    have c_hangs := cal_hangs_together (P := P) (w := w) (base := base) D_hangs_together T
    have c_judge := cal_judge_roads D_judge_roads T c_bound c_verdict c_fault c_none c_hangs
    have c_pick := cal__law_pick (P := P) (w := w) (base := base) D__law_pick T
    have c_shuf := cal__law_shuffled D__law_shuffled T c_pick
    have c_tree := cal__law_tree_roads D__law_tree_roads T c_pick c_shuf
    have c_reach := cal__law_reach (P := P) (w := w) (base := base) D__law_reach T
    have c_eis := cal__law_e_is_roads (P := P) (w := w) (base := base) D__law_e_is_roads T
    have c_eweight := cal__law_e_weight (P := P) (w := w) (base := base) D__law_e_weight T
    have c_ehangs := cal__law_e_hangs D__law_e_hangs T c_reach
    have c_enone := cal__law_e_none_due D__law_e_none_due T c_eweight c_reach
    have c_edue := cal__law_e_roads_due D__law_e_roads_due T c_eis c_reach c_enone c_ehangs
    have c_same := cal_same (P := P) (w := w) (base := base) D__law_same T
    have c_roads := cal__law_e_roads D__law_e_roads T c_pick c_shuf c_tree c_reach c_eweight c_judge c_edue c_same c_eis
    have c_many := cal__law_e_many_houses D__law_e_many_houses T c_pick D_judge_roads D_bound L TT FI
    have c_src := cal_srcK (P := P) (w := w) (base := base) D__law_source T
    exact ok_law F T c_src c_pick c_roads c_many
  obtain ⟨oc, od, kV, doc, pm, an, cdv, ct, osl, e, _, _⟩ := F.ex
  subst e
  exact ⟨_, fun s v => .of_eq rfl, fun base _ _ => ok base⟩
end
end K99

section
set_option maxHeartbeats 0
open PySem PySem.W PyProof.Rows
open_top head for PySem.Challenge.rw_letstand_k99_planned_roads_judged
end
open PySem PySem.W PyProof.Rows in
set_option maxRecDepth 100000 in
set_option maxHeartbeats 0 in
theorem PySem.Challenge.cw_letstand_k99_planned_roads_judged_holds : PySem.Challenge.rw_letstand_k99_planned_roads_judged.Holds :=
  head (by
  k_fill
  refine L2.walk_of (l := PySem.Challenge.rw_letstand_k99_planned_roads_judged) (n := 63) (k := 7) (x := "script") (CX := fun _ => L2.CX0) (sp := fun w => K99.spLawK _) rfl (by decide) rfl ⟨rfl, by decide, by decide⟩ (fun w h Y => PySem.W.kIn_of Y) ?F (fun _ _ a ns hl _ hS => ⟨a, ns, rfl, hS, hl, fun _ => rfl⟩) (fun _ _ _ _ _ h => h)
  case F =>
    intro w mg fa h KX G hmg
    refine' K99.all99 hmg ?T ?L ?TT ?FI ?D0 ?D1 ?D2 ?D3 ?D4 ?D5 ?D6 ?D7 ?D8 ?D9 ?D10 ?D11 ?D12 ?D13 ?D14 ?D15 ?D16 ?D17 ?D18 ?D19 ?D20 ?D21 ?D22 ?D23 ?D24 ?D25
    (case T =>
      refine' ⟨PySem.W.mg_none_of KX G ?z0, PySem.W.mg_none_of KX G ?z1, PySem.W.mg_none_of KX G ?z2, PySem.W.mg_none_of KX G ?z3, PySem.W.mg_none_of KX G ?z4, PySem.W.mg_none_of KX G ?z5, PySem.W.mg_none_of KX G ?z6, PySem.W.mg_none_of KX G ?z7, PySem.W.mg_none_of KX G ?z8, PySem.W.mg_none_of KX G ?z9, PySem.W.mg_none_of KX G ?z10, PySem.W.mg_none_of KX G ?z11, PySem.W.mg_none_of KX G ?z12, PySem.W.mg_none_of KX G ?z13, PySem.W.mg_none_of KX G ?z14, PySem.W.mg_none_of KX G ?z15⟩
      (case z0 => k_is)
      (case z1 => k_is)
      (case z2 => k_is)
      (case z3 => k_is)
      (case z4 => k_is)
      (case z5 => k_is)
      (case z6 => k_is)
      (case z7 => k_is)
      (case z8 => k_is)
      (case z9 => k_is)
      (case z10 => k_is)
      (case z11 => k_is)
      (case z12 => k_is)
      (case z13 => k_is)
      (case z14 => k_is)
      (case z15 => k_is))
    (case L =>
      refine' K99.lim_mk KX G ?a ?l ?b ?kl
      (case a => k_is)
      (case l => k_is)
      (case b => k_is)
      (case kl => repeat (first | exact True.intro | refine And.intro ⟨_, _, rfl, rfl⟩ ?_)))
    (case TT =>
      refine' K99.too_mk KX G ?aC ?xL ?sa ?ga ?gg ?nb ?iC ?tI ?kC ?eC ?tC ?hC ?jC ?sC
      (case aC => k_is)
      (case xL => k_is)
      (case sa => k_is)
      (case ga => k_is)
      (case gg => k_is)
      (case nb => k_is)
      (case iC => k_is)
      (case tI => k_is)
      (case kC => k_is)
      (case eC => k_is)
      (case tC => k_is)
      (case hC => k_is)
      (case jC => k_is)
      (case sC => first | rfl | k_is))
    (case FI =>
      refine' L2.fun_mk ?l ?c ?k
      (case l => k_is)
      (case c => k_is)
      (case k => k_is))
    (case D0 =>
      refine' K99.def_mk KX G ?a ?l ?c ?k ?b
      (case a => k_is)
      (case l => k_is)
      (case c => k_is)
      (case k => k_is)
      (case b => exact fun _ F => F.binds (ps := ["what", "number"]) fun _ _ _ _ _ _ us hl => match us, hl with | [_, _], _ => rfl))
    (case D1 =>
      refine' K99.def_mk KX G ?a ?l ?c ?k ?b
      (case a => k_is)
      (case l => k_is)
      (case c => k_is)
      (case k => k_is)
      (case b => exact fun _ F => F.binds (ps := ["thing"]) fun _ _ _ _ _ _ us hl => match us, hl with | [_], _ => rfl))
    (case D2 =>
      refine' K99.def_mk KX G ?a ?l ?c ?k ?b
      (case a => k_is)
      (case l => k_is)
      (case c => k_is)
      (case k => k_is)
      (case b => exact fun _ F => F.binds (ps := ["thing"]) fun _ _ _ _ _ _ us hl => match us, hl with | [_], _ => rfl))
    (case D3 =>
      refine' K99.def_mk KX G ?a ?l ?c ?k ?b
      (case a => k_is)
      (case l => k_is)
      (case c => k_is)
      (case k => k_is)
      (case b => exact fun _ F => F.binds (ps := ["thing"]) fun _ _ _ _ _ _ us hl => match us, hl with | [_], _ => rfl))
    (case D4 =>
      refine' K99.def_mk KX G ?a ?l ?c ?k ?b
      (case a => k_is)
      (case l => k_is)
      (case c => k_is)
      (case k => k_is)
      (case b => exact fun _ F => F.binds (ps := ["houses", "roads"]) fun _ _ _ _ _ _ us hl => match us, hl with | [_, _], _ => rfl))
    (case D5 =>
      refine' K99.def_mk KX G ?a ?l ?c ?k ?b
      (case a => k_is)
      (case l => k_is)
      (case c => k_is)
      (case k => k_is)
      (case b => exact fun _ F => F.binds (ps := ["members", "roads"]) fun _ _ _ _ _ _ us hl => match us, hl with | [_, _], _ => rfl))
    (case D6 =>
      refine' K99.def_mk KX G ?a ?l ?c ?k ?b
      (case a => k_is)
      (case l => k_is)
      (case c => k_is)
      (case k => k_is)
      (case b => exact fun _ F => F.binds (ps := ["sets", "a", "b"]) fun _ _ _ _ _ _ us hl => match us, hl with | [_, _, _], _ => rfl))
    (case D7 =>
      refine' K99.def_mk KX G ?a ?l ?c ?k ?b
      (case a => k_is)
      (case l => k_is)
      (case c => k_is)
      (case k => k_is)
      (case b => exact fun _ F => F.binds (ps := ["roads", "weights", "a"]) fun _ _ _ _ _ _ us hl => match us, hl with | [_, _, _], _ => rfl))
    (case D8 =>
      refine' K99.def_mk KX G ?a ?l ?c ?k ?b
      (case a => k_is)
      (case l => k_is)
      (case c => k_is)
      (case k => k_is)
      (case b => exact fun _ F => F.binds (ps := ["houses", "sets", "roads"]) fun _ _ _ _ _ _ us hl => match us, hl with | [_, _, _], _ => rfl))
    (case D9 =>
      refine' K99.def_mk KX G ?a ?l ?c ?k ?b
      (case a => k_is)
      (case l => k_is)
      (case c => k_is)
      (case k => k_is)
      (case b => exact fun _ F => F.binds (ps := ["houses", "sets", "verdict"]) fun _ _ _ _ _ _ us hl => match us, hl with | [_, _, _], _ => rfl))
    (case D10 =>
      refine' K99.def_mk KX G ?a ?l ?c ?k ?b
      (case a => k_is)
      (case l => k_is)
      (case c => k_is)
      (case k => k_is)
      (case b => exact fun _ F => F.binds (ps := ["verdict"]) fun _ _ _ _ _ _ us hl => match us, hl with | [_], _ => rfl))
    (case D11 =>
      refine' K99.def_mk KX G ?a ?l ?c ?k ?b
      (case a => k_is)
      (case l => k_is)
      (case c => k_is)
      (case k => k_is)
      (case b => exact fun _ F => F.binds (ps := ["houses", "sets", "verdict"]) fun _ _ _ _ _ _ us hl => match us, hl with | [_, _, _], _ => rfl))
    (case D12 =>
      refine' K99.def_mk KX G ?a ?l ?c ?k ?b
      (case a => k_is)
      (case l => k_is)
      (case c => k_is)
      (case k => k_is)
      (case b => exact fun _ F => F.binds (ps := ["script", "at"]) fun _ _ _ _ _ _ us hl => match us, hl with | [_, _], _ => rfl))
    (case D13 =>
      refine' K99.def_mk KX G ?a ?l ?c ?k ?b
      (case a => k_is)
      (case l => k_is)
      (case c => k_is)
      (case k => k_is)
      (case b => exact fun _ F => F.binds (ps := ["source", "many"]) fun _ _ _ _ _ _ us hl => match us, hl with | [_, _], _ => rfl))
    (case D14 =>
      refine' K99.def_mk KX G ?a ?l ?c ?k ?b
      (case a => k_is)
      (case l => k_is)
      (case c => k_is)
      (case k => k_is)
      (case b => exact fun _ F => F.binds (ps := ["source", "things"]) fun _ _ _ _ _ _ us hl => match us, hl with | [_, _], _ => rfl))
    (case D15 =>
      refine' K99.def_mk KX G ?a ?l ?c ?k ?b
      (case a => k_is)
      (case l => k_is)
      (case c => k_is)
      (case k => k_is)
      (case b => exact fun _ F => F.binds (ps := ["answer", "due"]) fun _ _ _ _ _ _ us hl => match us, hl with | [_, _], _ => rfl))
    (case D16 =>
      refine' K99.def_mk KX G ?a ?l ?c ?k ?b
      (case a => k_is)
      (case l => k_is)
      (case c => k_is)
      (case k => k_is)
      (case b => exact fun _ F => F.binds (ps := ["source", "many"]) fun _ _ _ _ _ _ us hl => match us, hl with | [_, _], _ => rfl))
    (case D17 =>
      refine' K99.def_mk KX G ?a ?l ?c ?k ?b
      (case a => k_is)
      (case l => k_is)
      (case c => k_is)
      (case k => k_is)
      (case b => exact fun _ F => F.binds (ps := ["roads", "start"]) fun _ _ _ _ _ _ us hl => match us, hl with | [_, _], _ => rfl))
    (case D18 =>
      refine' K99.def_mk KX G ?a ?l ?c ?k ?b
      (case a => k_is)
      (case l => k_is)
      (case c => k_is)
      (case k => k_is)
      (case b => exact fun _ F => F.binds (ps := ["thing"]) fun _ _ _ _ _ _ us hl => match us, hl with | [_], _ => rfl))
    (case D19 =>
      refine' K99.def_mk KX G ?a ?l ?c ?k ?b
      (case a => k_is)
      (case l => k_is)
      (case c => k_is)
      (case k => k_is)
      (case b => exact fun _ F => F.binds (ps := ["sets", "a", "b"]) fun _ _ _ _ _ _ us hl => match us, hl with | [_, _, _], _ => rfl))
    (case D20 =>
      refine' K99.def_mk KX G ?a ?l ?c ?k ?b
      (case a => k_is)
      (case l => k_is)
      (case c => k_is)
      (case k => k_is)
      (case b => exact fun _ F => F.binds (ps := ["houses", "sets", "verdict"]) fun _ _ _ _ _ _ us hl => match us, hl with | [_, _, _], _ => rfl))
    (case D21 =>
      refine' K99.def_mk KX G ?a ?l ?c ?k ?b
      (case a => k_is)
      (case l => k_is)
      (case c => k_is)
      (case k => k_is)
      (case b => exact fun _ F => F.binds (ps := ["houses", "sets", "verdict"]) fun _ _ _ _ _ _ us hl => match us, hl with | [_, _, _], _ => rfl))
    (case D22 =>
      refine' K99.def_mk KX G ?a ?l ?c ?k ?b
      (case a => k_is)
      (case l => k_is)
      (case c => k_is)
      (case k => k_is)
      (case b => exact fun _ F => F.binds (ps := ["members", "roads"]) fun _ _ _ _ _ _ us hl => match us, hl with | [_, _], _ => rfl))
    (case D23 =>
      refine' K99.def_mk KX G ?a ?l ?c ?k ?b
      (case a => k_is)
      (case l => k_is)
      (case c => k_is)
      (case k => k_is)
      (case b => exact fun _ F => F.binds (ps := ["source"]) fun _ _ _ _ _ _ us hl => match us, hl with | [_], _ => rfl))
    (case D24 =>
      refine' K99.def_mk KX G ?a ?l ?c ?k ?b
      (case a => k_is)
      (case l => k_is)
      (case c => k_is)
      (case k => k_is)
      (case b => exact fun _ F => F.binds (ps := ["source"]) fun _ _ _ _ _ _ us hl => match us, hl with | [_], _ => rfl))
    (case D25 =>
      refine' K99.def_mk KX G ?a ?l ?c ?k ?b
      (case a => k_is)
      (case l => k_is)
      (case c => k_is)
      (case k => k_is)
      (case b => exact fun _ F => F.binds (ps := ["script"]) fun _ _ _ _ _ _ us hl => match us, hl with | [_], _ => rfl))
  )
