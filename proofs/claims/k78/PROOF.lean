import PyProof.Rows.All
import HandS.ForMost
import HandS.Defaults
import HandS.MakeKw
import HandS.IsInst
import HandS.Star
import HandS.Style
import HandS.Flow
import HandS.Conv
import HandS.Walk
import HandS.TupAny
import HandS.MakeKwOnly
import HandS.TupLe
import KE.GoesEnum
import HandS.HeadHook2
import HandS.OwnEq
import HandS.SlotsOwn
import KE.DatumOrd
import HandS.Dict
import HandS.Iter
import HandS.Small
import PySem.Challenge.RW_twoeyes_k78_whole_needed_main_and_two_cl
import HandS.Wide
import HandS.Head0
import HandS.Head1
import HandS.Head2
import HandS.HeadEnd
import HandS.HeadHook1
import Lean
set_option Elab.async false
set_option linter.all false
set_option maxRecDepth 100000
set_option maxHeartbeats 4000000
/-! A calculus over data: what a reading does to values told as plain data, the heap hidden. -/
namespace Z
open PySem PySem.Spec PyProof.Rows L2

/-- data that never changes -/
inductive P where
  | non | bl (b : Bool) | int (i : Int) | str (s : Str) | tup (ds : List P) | lst (ds : List P) | scr (ds : List P) | ins (C : Addr) (ks : List Str) (ds : List P)
  | dct (ks : List Key) (ds : List P) | dcT (ks : List (List Key)) (ds : List P)

def WrT (K : PySem.W.Frag) (a : Addr) (xs : List V) : Prop := ∃ (o : Obj) (its : Array Value) (n : Nat), K.lookup a = some o ∧ o.cls = .type "tuple" ∧ o.data = .seq its n ∧ its.size ≤ sizeLine ∧ Vals xs its.toList
def WrL (K : PySem.W.Frag) (a : Addr) (xs : List V) : Prop := ∃ (o : Obj) (its : Array Value) (n : Nat), K.lookup a = some o ∧ o.cls = .type "list" ∧ o.dict = none ∧ o.data = .seq its n ∧ its.size ≤ sizeLine ∧ Vals xs its.toList

mutual
/-- v stands for d in H; no object of d is in X -/
inductive Rp (K : PySem.W.Frag) (X : Addr → Prop) (H : Hp) : V → P → Prop
  | non : Rp K X H .non .non
  | bl (b : Bool) : Rp K X H (.bl b) (.bl b)
  | int (i : Int) : Rp K X H (.int i) (.int i)
  | str (s : Str) : Rp K X H (.str s) (.str s)
  | tup {a : Addr} {xs : List V} {ds : List P} : Rd H a (.tup xs) → ¬ X a → Rps K X H xs ds → Rp K X H (.ref a) (.tup ds)
  | tupK {a : Addr} {xs : List V} {ds : List P} : WrT K a xs → Rps K X H xs ds → Rp K X H (.ref a) (.tup ds)
  | lst {a : Addr} {xs : List V} {ds : List P} : H a = some (.lst xs) → ¬ X a → Rps K X H xs ds → Rp K X H (.ref a) (.lst ds)
  | scr {a : Addr} {xs : List V} {ds : List P} : Rd H a (.lst xs) → ¬ X a → Rps K X H xs ds → Rp K X H (.ref a) (.scr ds)
  | scrK {a : Addr} {xs : List V} {ds : List P} : WrL K a xs → Rps K X H xs ds → Rp K X H (.ref a) (.scr ds)
  | ins {a C dx : Addr} {ks : List Str} {vs : List V} {ds : List P} : H a = some (.ins C dx (ks.zip vs)) → ¬ X a → ks.length = vs.length → Rps K X H vs ds → Rp K X H (.ref a) (.ins C ks ds)
  | dct {a : Addr} {ks : List Key} {vs : List V} {ds : List P} : H a = some (.dK (ks.zip vs)) → ¬ X a → ks.length = vs.length → Rps K X H vs ds → Rp K X H (.ref a) (.dct ks ds)
  | dcT {a : Addr} {ks : List (List Key)} {vs : List V} {ds : List P} : H a = some (.dT (ks.zip vs)) → ¬ X a → ks.length = vs.length → Rps K X H vs ds → Rp K X H (.ref a) (.dcT ks ds)
inductive Rps (K : PySem.W.Frag) (X : Addr → Prop) (H : Hp) : List V → List P → Prop
  | nil : Rps K X H [] []
  | cons {v : V} {vs : List V} {d : P} {ds : List P} : Rp K X H v d → Rps K X H vs ds → Rps K X H (v :: vs) (d :: ds)
end

section
variable {K : PySem.W.Frag} {X X' : Addr → Prop} {H H' : Hp}
theorem Rd.keep {a : Addr} {u : HO} (h : Rd H a u) (k : ∀ o, H a = some o → H' a = some o) : Rd H' a u := by
  rcases h with h | ⟨o, h⟩
  · exact .inl (k _ h)
  · exact .inr ⟨o, k _ h⟩
theorem Rd.is {a : Addr} {u : HO} (h : Rd H a u) : ∃ o, H a = some o := by
  rcases h with h | ⟨o, h⟩
  · exact ⟨_, h⟩
  · exact ⟨_, h⟩
mutual
theorem Rp.mono (hk : ∀ a o, H a = some o → ¬ X a → H' a = some o) (hx : ∀ a o, H a = some o → ¬ X a → ¬ X' a) : ∀ {v : V} {d : P}, Rp K X H v d → Rp K X' H' v d
  | _, _, .non => .non
  | _, _, .bl b => .bl b
  | _, _, .int i => .int i
  | _, _, .str s => .str s
  | _, _, .tup (a := a) h n r => .tup (Rd.keep h fun o e => hk a o e n) (let ⟨o, e⟩ := Rd.is h; hx a o e n) (Rps.mono hk hx r)
  | _, _, .tupK h r => .tupK h (Rps.mono hk hx r)
  | _, _, .lst (a := a) h n r => .lst (hk a _ h n) (hx a _ h n) (Rps.mono hk hx r)
  | _, _, .scr (a := a) h n r => .scr (Rd.keep h fun o e => hk a o e n) (let ⟨o, e⟩ := Rd.is h; hx a o e n) (Rps.mono hk hx r)
  | _, _, .scrK h r => .scrK h (Rps.mono hk hx r)
  | _, _, .ins (a := a) h n l r => .ins (hk a _ h n) (hx a _ h n) l (Rps.mono hk hx r)
  | _, _, .dct (a := a) h n l r => .dct (hk a _ h n) (hx a _ h n) l (Rps.mono hk hx r)
  | _, _, .dcT (a := a) h n l r => .dcT (hk a _ h n) (hx a _ h n) l (Rps.mono hk hx r)
theorem Rps.mono (hk : ∀ a o, H a = some o → ¬ X a → H' a = some o) (hx : ∀ a o, H a = some o → ¬ X a → ¬ X' a) : ∀ {vs : List V} {ds : List P}, Rps K X H vs ds → Rps K X' H' vs ds
  | _, _, .nil => .nil
  | _, _, .cons h r => .cons (Rp.mono hk hx h) (Rps.mono hk hx r)
end
theorem Rp.same (s : Same H H') {v : V} {d : P} (h : Rp K X H v d) : Rp K X H' v d := h.mono (fun a o e _ => s a o e) (fun _ _ _ n => n)
theorem Rps.same (s : Same H H') {v : List V} {d : List P} (h : Rps K X H v d) : Rps K X H' v d := h.mono (fun a o e _ => s a o e) (fun _ _ _ n => n)
/-- a smaller set to be kept away from -/
theorem Rp.less (hx : ∀ a, X' a → X a) {v : V} {d : P} (h : Rp K X H v d) : Rp K X' H v d := h.mono (fun _ _ e _ => e) (fun a _ _ n z => n (hx a z))
theorem Rps.less (hx : ∀ a, X' a → X a) {v : List V} {d : List P} (h : Rps K X H v d) : Rps K X' H v d := h.mono (fun _ _ e _ => e) (fun a _ _ n z => n (hx a z))
theorem Rps.length : ∀ {vs : List V} {ds : List P}, Rps K X H vs ds → vs.length = ds.length
  | _, _, .nil => rfl
  | _, _, .cons _ r => congrArg Nat.succ (Rps.length r)
theorem Rps.get : ∀ {vs : List V} {ds : List P} {i : Nat} {d : P}, Rps K X H vs ds → ds[i]? = some d → ∃ v, vs[i]? = some v ∧ Rp K X H v d
  | _, _, _, _, .nil, e => by simp at e
  | _, _, 0, _, .cons h _, e => by simp at e; subst e; exact ⟨_, rfl, h⟩
  | _, _, i + 1, _, .cons _ r, e => by
    obtain ⟨v, h1, h2⟩ := Rps.get (i := i) r (by simpa using e)
    exact ⟨v, by simpa using h1, h2⟩
theorem Rps.getV : ∀ {vs : List V} {ds : List P} {i : Nat} {v : V}, Rps K X H vs ds → vs[i]? = some v → ∃ d, ds[i]? = some d ∧ Rp K X H v d
  | _, _, _, _, .nil, e => by simp at e
  | _, _, 0, _, .cons h _, e => by simp at e; subst e; exact ⟨_, rfl, h⟩
  | _, _, i + 1, _, .cons _ r, e => by
    obtain ⟨v, h1, h2⟩ := Rps.getV (i := i) r (by simpa using e)
    exact ⟨v, by simpa using h1, h2⟩
theorem Rps.append : ∀ {vs ws : List V} {ds es : List P}, Rps K X H vs ds → Rps K X H ws es → Rps K X H (vs ++ ws) (ds ++ es)
  | _, _, _, _, .nil, r => r
  | _, _, _, _, .cons h t, r => .cons h (Rps.append t r)
theorem Rps.take : ∀ {vs : List V} {ds : List P} (n : Nat), Rps K X H vs ds → Rps K X H (vs.take n) (ds.take n)
  | _, _, 0, _ => .nil
  | _, _, _ + 1, .nil => .nil
  | _, _, n + 1, .cons h t => .cons h (Rps.take n t)
theorem Rps.drop : ∀ {vs : List V} {ds : List P} (n : Nat), Rps K X H vs ds → Rps K X H (vs.drop n) (ds.drop n)
  | _, _, 0, r => r
  | _, _, _ + 1, .nil => .nil
  | _, _, n + 1, .cons _ t => Rps.drop n t
theorem Rps.reverse : ∀ {vs : List V} {ds : List P}, Rps K X H vs ds → Rps K X H vs.reverse ds.reverse
  | _, _, .nil => .nil
  | _, _, .cons h t => by
    rw [List.reverse_cons, List.reverse_cons]
    exact Rps.append (Rps.reverse t) (.cons h .nil)
theorem Rps.ints : ∀ {vs : List V} {ns : List Int}, Rps K X H vs (ns.map P.int) → vs = ns.map V.int
  | _, [], r => by cases r; rfl
  | _, n :: ns, r => by
    cases r with
    | cons h t =>
      cases h
      rw [Rps.ints t]
      rfl
theorem Rps.ofInts : ∀ (ns : List Int), Rps K X H (ns.map V.int) (ns.map P.int)
  | [] => .nil
  | n :: ns => .cons (.int n) (Rps.ofInts ns)
theorem Rps.strs : ∀ {vs : List V} {ns : List Str}, Rps K X H vs (ns.map P.str) → vs = ns.map V.str
  | _, [], r => by cases r; rfl
  | _, n :: ns, r => by
    cases r with
    | cons h t =>
      cases h
      rw [Rps.strs t]
      rfl
theorem Rps.bls : ∀ {vs : List V} {ns : List Bool}, Rps K X H vs (ns.map P.bl) → vs = ns.map V.bl
  | _, [], r => by cases r; rfl
  | _, n :: ns, r => by
    cases r with
    | cons h t =>
      cases h
      rw [Rps.bls t]
      rfl
/-- what a tuple, a list is -/
theorem Rp.tupOf {a : V} {ds : List P} (h : Rp K X H a (.tup ds)) : ∃ p xs, a = .ref p ∧ SqT K H p xs ∧ Rps K X H xs ds := by
  cases h with
  | tup h n r => exact ⟨_, _, rfl, .inl h, r⟩
  | tupK h r => exact ⟨_, _, rfl, .inr h, r⟩
theorem Rp.lstOf {a : V} {ds : List P} (h : Rp K X H a (.lst ds)) : ∃ p xs, a = .ref p ∧ H p = some (.lst xs) ∧ ¬ X p ∧ Rps K X H xs ds := by
  cases h with
  | lst h n r => exact ⟨_, _, rfl, h, n, r⟩
theorem Rp.scrOf {a : V} {ds : List P} (h : Rp K X H a (.scr ds)) : ∃ p xs, a = .ref p ∧ SqL K H p xs ∧ Rps K X H xs ds := by
  cases h with
  | scr h n r => exact ⟨_, _, rfl, .inl h, r⟩
  | scrK h r => exact ⟨_, _, rfl, .inr h, r⟩
/-- a new tuple, a new list -/
theorem same_new {p : Addr} {o : HO} (h : H p = none) : Same H (upd H p o) := fun b u e => by
  rw [upd_ne (ne_of_none e h)]
  exact e
theorem Rp.newT {p : Addr} {xs : List V} {ds : List P} (hx : ∀ a, X a → ∃ o, H a = some o) (hp : H p = none) (r : Rps K X H xs ds) : Rp K X (upd H p (.tup xs)) (.ref p) (.tup ds) :=
  .tup (.inl upd_same) (fun z => by obtain ⟨o, e⟩ := hx p z; rw [e] at hp; cases hp) (r.same (same_new hp))
theorem Rp.newL {p : Addr} {xs : List V} {ds : List P} (hx : ∀ a, X a → ∃ o, H a = some o) (hp : H p = none) (r : Rps K X H xs ds) : Rp K X (upd H p (.lst xs)) (.ref p) (.lst ds) :=
  .lst upd_same (fun z => by obtain ⟨o, e⟩ := hx p z; rw [e] at hp; cases hp) (r.same (same_new hp))
end

/-! ### changing things: cells -/
/-- a value: data, or the k-th cell, or a tuple that holds such -/
inductive D where
  | v (p : P) | c (k : Nat) | t (ds : List D)
/-- what a cell holds: a list's items, an instance's attributes -/
inductive MC where
  | l (ds : List D) | o (C : Addr) (ks : List Str) (ds : List D) | d (ks : List Key) (ds : List D) | t (ks : List (List Key)) (ds : List D) | f (u : HO) (ks : List Key) (ds : List D)
abbrev Env := List (Option D)
abbrev Mem := List MC
abbrev XA (X : Addr → Prop) (A : List Addr) : Addr → Prop := fun a => X a ∨ a ∈ A
mutual
inductive RD (K : PySem.W.Frag) (X : Addr → Prop) (A : List Addr) (H : Hp) : V → D → Prop
  | v {v : V} {p : P} : Rp K (XA X A) H v p → RD K X A H v (.v p)
  | c {a : Addr} {k : Nat} : A[k]? = some a → RD K X A H (.ref a) (.c k)
  | t {a : Addr} {xs : List V} {ds : List D} : Rd H a (.tup xs) → ¬ XA X A a → RDs K X A H xs ds → RD K X A H (.ref a) (.t ds)
inductive RDs (K : PySem.W.Frag) (X : Addr → Prop) (A : List Addr) (H : Hp) : List V → List D → Prop
  | nil : RDs K X A H [] []
  | cons {v : V} {vs : List V} {d : D} {ds : List D} : RD K X A H v d → RDs K X A H vs ds → RDs K X A H (v :: vs) (d :: ds)
end
def CellAt (K : PySem.W.Frag) (X : Addr → Prop) (A : List Addr) (H : Hp) (a : Addr) : MC → Prop
  | .l ds => ∃ xs, H a = some (.lst xs) ∧ RDs K X A H xs ds
  | .o C ks ds => ∃ dx vs, H a = some (.ins C dx (ks.zip vs)) ∧ ks.length = vs.length ∧ RDs K X A H vs ds
  | .d ks ds => ∃ vs, H a = some (.dK (ks.zip vs)) ∧ ks.length = vs.length ∧ RDs K X A H vs ds
  | .t ks ds => ∃ vs, H a = some (.dT (ks.zip vs)) ∧ ks.length = vs.length ∧ RDs K X A H vs ds
  | .f u ks ds => ∃ vs, (H a = some u ∧ ∃ o, u = .frz o (.dK (ks.zip vs))) ∧ ks.length = vs.length ∧ RDs K X A H vs ds
structure Cells (K : PySem.W.Frag) (X : Addr → Prop) (A : List Addr) (M : Mem) (H : Hp) : Prop where
  nd : A.Nodup
  len : A.length = M.length
  at_ : ∀ (k : Nat) (a : Addr) (c : MC), A[k]? = some a → M[k]? = some c → CellAt K X A H a c
  xs : ∀ a, X a → ∃ o, H a = some o
  dj : ∀ a, X a → a ∉ A
structure Tr (A : List Addr) (H : Hp) (A' : List Addr) (H' : Hp) : Prop where
  ext : ∃ B, A' = A ++ B ∧ ∀ b ∈ B, H b = none
  keep : ∀ a o, H a = some o → a ∉ A → H' a = some o
  stay : ∀ a o, H a = some o → ∃ o', H' a = some o'
/-- an object is preserved or a cell of a list or an instance; tuples are never cells -/
structure Sl (K : PySem.W.Frag) (X : Addr → Prop) (A : List Addr) (Γ : Env) (σ : L2.St) (H : Hp) : Prop where
  len : σ.length = Γ.length
  at_ : ∀ (i : Nat) (d : D), Γ[i]? = some (some d) → ∃ v, σ[i]? = some (some v) ∧ RD K X A H v d

section
variable {K : PySem.W.Frag} {X : Addr → Prop} {A A1 A2 : List Addr} {H H1 H2 : Hp} {M : Mem}
theorem Tr.refl : Tr A H A H := ⟨⟨[], by simp, by simp⟩, fun _ _ e _ => e, fun _ o e => ⟨o, e⟩⟩
theorem Tr.trans (s : Tr A H A1 H1) (t : Tr A1 H1 A2 H2) : Tr A H A2 H2 := by
  obtain ⟨B1, e1, f1⟩ := s.ext
  obtain ⟨B2, e2, f2⟩ := t.ext
  refine ⟨⟨B1 ++ B2, by rw [e2, e1, List.append_assoc], fun b hb => ?_⟩, fun a o e n => ?_, fun a o e => ?_⟩
  · rcases List.mem_append.mp hb with h | h
    · exact f1 b h
    · cases q : H b with
      | none => rfl
      | some o =>
        obtain ⟨o', e'⟩ := s.stay b o q
        rw [f2 b h] at e'
        cases e'
  · refine t.keep a o (s.keep a o e n) fun z => ?_
    rw [e1] at z
    rcases List.mem_append.mp z with h | h
    · exact n h
    · rw [f1 a h] at e
      cases e
  · obtain ⟨o1, q1⟩ := s.stay a o e
    exact t.stay a o1 q1
theorem Tr.rp (s : Tr A H A1 H1) {v : V} {d : P} (h : Rp K (XA X A) H v d) : Rp K (XA X A1) H1 v d := by
  obtain ⟨B, e, f⟩ := s.ext
  refine h.mono (fun a o q n => s.keep a o q fun z => n (.inr z)) fun a o q n z => ?_
  rcases z with z | z
  · exact n (.inl z)
  · rw [e] at z
    rcases List.mem_append.mp z with z | z
    · exact n (.inr z)
    · rw [f a z] at q
      cases q
mutual
theorem Tr.rd (s : Tr A H A1 H1) : ∀ {v : V} {d : D}, RD K X A H v d → RD K X A1 H1 v d
  | _, _, .v r => .v (s.rp r)
  | _, _, .c e => by
    obtain ⟨B, q, _⟩ := s.ext
    refine .c ?_
    rw [q, List.getElem?_append_left (List.getElem?_eq_some_iff.mp e).1]
    exact e
  | _, _, .t (a := a) h n r => .t (Rd.keep h fun o e => s.keep a o e fun z => n (.inr z)) (fun z => by
    obtain ⟨B, e, f⟩ := s.ext
    obtain ⟨o, q⟩ := Rd.is h
    rcases z with z | z
    · exact n (.inl z)
    · rw [e] at z
      rcases List.mem_append.mp z with z | z
      · exact n (.inr z)
      · rw [f a z] at q
        cases q) (Tr.rds s r)
theorem Tr.rds (s : Tr A H A1 H1) : ∀ {v : List V} {d : List D}, RDs K X A H v d → RDs K X A1 H1 v d
  | _, _, .nil => .nil
  | _, _, .cons h r => .cons (Tr.rd s h) (Tr.rds s r)
end
theorem Tr.sl (s : Tr A H A1 H1) {Γ : Env} {σ : L2.St} (h : Sl K X A Γ σ H) : Sl K X A1 Γ σ H1 := ⟨h.len, fun i d e => by
  obtain ⟨v, e1, r⟩ := h.at_ i d e
  exact ⟨v, e1, s.rd r⟩⟩
theorem Tr.ofSame (s : Same H H1) : Tr A H A H1 := ⟨⟨[], by simp, by simp⟩, fun a o e _ => s a o e, fun a o e => ⟨o, s a o e⟩⟩
theorem Cells.is (c : Cells K X A M H) {a : Addr} (h : a ∈ A) : ∃ o, H a = some o := by
  obtain ⟨k, e⟩ := List.getElem?_of_mem h
  have hk : k < M.length := by rw [← c.len]; exact (List.getElem?_eq_some_iff.mp e).1
  have q := c.at_ k a M[k] e (List.getElem?_eq_getElem hk)
  cases hm : M[k] with
  | l ds => rw [hm] at q; obtain ⟨xs, e, _⟩ := q; exact ⟨_, e⟩
  | o C ks ds => rw [hm] at q; obtain ⟨dx, vs, e, _⟩ := q; exact ⟨_, e⟩
  | d ks ds => rw [hm] at q; obtain ⟨vs, e, _⟩ := q; exact ⟨_, e⟩
  | t ks ds => rw [hm] at q; obtain ⟨vs, e, _⟩ := q; exact ⟨_, e⟩
  | f u ks ds => rw [hm] at q; obtain ⟨vs, ⟨e, _⟩, _⟩ := q; exact ⟨_, e⟩
theorem Cells.xa (c : Cells K X A M H) : ∀ a, XA X A a → ∃ o, H a = some o := fun a h => by
  rcases h with h | h
  · exact c.xs a h
  · exact c.is h
theorem CellAt.tr (s : Tr A H A1 H1) {a : Addr} {c : MC} (h : CellAt K X A H a c) (k : ∀ o, H a = some o → H1 a = some o) : CellAt K X A1 H1 a c := by
  cases c with
  | l ds => obtain ⟨xs, e, r⟩ := h; exact ⟨xs, k _ e, s.rds r⟩
  | o C ks ds => obtain ⟨dx, vs, e, l, r⟩ := h; exact ⟨dx, vs, k _ e, l, s.rds r⟩
  | d ks ds => obtain ⟨vs, e, l, r⟩ := h; exact ⟨vs, k _ e, l, s.rds r⟩
  | t ks ds => obtain ⟨vs, e, l, r⟩ := h; exact ⟨vs, k _ e, l, s.rds r⟩
  | f u ks ds => obtain ⟨vs, ⟨e, o⟩, l, r⟩ := h; exact ⟨vs, ⟨k _ e, o⟩, l, s.rds r⟩
/-- everything stands as it stood -/
theorem Cells.same (c : Cells K X A M H) (s : Same H H1) : Cells K X A M H1 := ⟨c.nd, c.len, fun k a m e1 e2 => (c.at_ k a m e1 e2).tr (Tr.ofSame s) (s a), fun a h => by
  obtain ⟨o, e⟩ := c.xs a h
  exact ⟨o, s a o e⟩, c.dj⟩
theorem RDs.length : ∀ {vs : List V} {ds : List D}, RDs K X A H vs ds → vs.length = ds.length
  | _, _, .nil => rfl
  | _, _, .cons _ r => congrArg Nat.succ (RDs.length r)
theorem RDs.get : ∀ {vs : List V} {ds : List D} {i : Nat} {d : D}, RDs K X A H vs ds → ds[i]? = Option.some d → ∃ v, vs[i]? = Option.some v ∧ RD K X A H v d
  | _, _, _, _, .nil, e => by simp at e
  | _, _, 0, _, .cons h _, e => by simp at e; subst e; exact ⟨_, rfl, h⟩
  | _, _, i + 1, _, .cons _ r, e => by
    obtain ⟨v, h1, h2⟩ := RDs.get (i := i) r (by simpa using e)
    exact ⟨v, by simpa using h1, h2⟩
theorem RDs.set {v : V} {d : D} (h : RD K X A H v d) : ∀ {vs : List V} {ds : List D} (i : Nat), RDs K X A H vs ds → RDs K X A H (vs.set i v) (ds.set i d)
  | _, _, _, .nil => .nil
  | _, _, 0, .cons _ r => .cons h r
  | _, _, i + 1, .cons q r => .cons q (RDs.set h i r)
theorem RDs.append : ∀ {vs ws : List V} {ds es : List D}, RDs K X A H vs ds → RDs K X A H ws es → RDs K X A H (vs ++ ws) (ds ++ es)
  | _, _, _, _, .nil, r => r
  | _, _, _, _, .cons h t, r => .cons h (RDs.append t r)
theorem RDs.erase : ∀ {vs : List V} {ds : List D} (i : Nat), RDs K X A H vs ds → RDs K X A H (vs.eraseIdx i) (ds.eraseIdx i)
  | _, _, _, .nil => .nil
  | _, _, 0, .cons _ r => r
  | _, _, i + 1, .cons q r => .cons q (RDs.erase i r)
theorem RDs.insert {v : V} {d : D} (h : RD K X A H v d) : ∀ {vs : List V} {ds : List D} (i : Nat), RDs K X A H vs ds → RDs K X A H (vs.take i ++ v :: vs.drop i) (ds.take i ++ d :: ds.drop i)
  | _, _, 0, r => .cons h r
  | _, _, i + 1, .nil => .cons h .nil
  | _, _, i + 1, .cons q r => .cons q (RDs.insert h i r)
theorem RDs.ofRps : ∀ {vs : List V} {ds : List P}, Rps K (XA X A) H vs ds → RDs K X A H vs (ds.map .v)
  | _, _, .nil => .nil
  | _, _, .cons h r => .cons (.v h) (RDs.ofRps r)
theorem RDs.toRps : ∀ {vs : List V} {ds : List P}, RDs K X A H vs (ds.map .v) → Rps K (XA X A) H vs ds
  | _, [], r => by cases r; exact .nil
  | _, _ :: _, r => by
    cases r with
    | cons h t => cases h with
      | v h => exact .cons h (RDs.toRps t)
end

/-! ### frozen: a cell's content as data; the cells below n stay cells -/
mutual
inductive Fz (n : Nat) (M : Mem) : D → P → Prop
  | v (p : P) : Fz n M (.v p) p
  | c {k : Nat} {ds : List D} {ps : List P} : n ≤ k → M[k]? = some (.l ds) → Fzs n M ds ps → Fz n M (.c k) (.lst ps)
  | o {k : Nat} {C : Addr} {ks : List Str} {ds : List D} {ps : List P} : n ≤ k → M[k]? = some (.o C ks ds) → Fzs n M ds ps → Fz n M (.c k) (.ins C ks ps)
  | d {k : Nat} {ks : List Key} {ds : List D} {ps : List P} : n ≤ k → M[k]? = some (.d ks ds) → Fzs n M ds ps → Fz n M (.c k) (.dct ks ps)
  | t {k : Nat} {ks : List (List Key)} {ds : List D} {ps : List P} : n ≤ k → M[k]? = some (.t ks ds) → Fzs n M ds ps → Fz n M (.c k) (.dcT ks ps)
  | tp {ds : List D} {ps : List P} : Fzs n M ds ps → Fz n M (.t ds) (.tup ps)
inductive Fzs (n : Nat) (M : Mem) : List D → List P → Prop
  | nil : Fzs n M [] []
  | cons {d : D} {ds : List D} {p : P} {ps : List P} : Fz n M d p → Fzs n M ds ps → Fzs n M (d :: ds) (p :: ps)
end
theorem Fzs.vs (n : Nat) (M : Mem) : ∀ (ps : List P), Fzs n M (ps.map .v) ps
  | [] => .nil
  | p :: ps => .cons (.v p) (Fzs.vs n M ps)
section
variable {K : PySem.W.Frag} {X : Addr → Prop} {A : List Addr} {H : Hp} {M : Mem} {n : Nat}
theorem nd_take : ∀ {A : List Addr} {n k : Nat} {a : Addr}, A.Nodup → A[k]? = some a → n ≤ k → a ∉ A.take n := fun {A n k a} nd e h z => by
  obtain ⟨j, hj⟩ := List.getElem?_of_mem z
  have hj2 : j < n := by
    have := (List.getElem?_eq_some_iff.mp hj).1
    rw [List.length_take] at this
    omega
  rw [List.getElem?_take_of_lt hj2] at hj
  have e2 : j = k := (List.getElem?_inj (List.getElem?_eq_some_iff.mp hj).1 nd).mp (hj.trans e.symm)
  omega
mutual
theorem Fz.rp (hc : Cells K X A M H) : ∀ {d : D} {p : P} {v : V}, Fz n M d p → RD K X A H v d → Rp K (XA X (A.take n)) H v p
  | _, _, _, .v p, .v r => r.less fun a z => z.elim .inl fun z => .inr (List.mem_of_mem_take z)
  | _, _, _, .c (k := k) l e f, .c (a := a) ea => by
    obtain ⟨xs, h, r⟩ := hc.at_ k a _ ea e
    exact .lst h (fun z => z.elim (fun z => hc.dj a z (List.mem_of_getElem? ea)) (nd_take hc.nd ea l)) (Fzs.rps hc f r)
  | _, _, _, .o (k := k) l e f, .c (a := a) ea => by
    obtain ⟨dx, vs, h, q, r⟩ := hc.at_ k a _ ea e
    exact .ins h (fun z => z.elim (fun z => hc.dj a z (List.mem_of_getElem? ea)) (nd_take hc.nd ea l)) q (Fzs.rps hc f r)
  | _, _, _, .d (k := k) l e f, .c (a := a) ea => by
    obtain ⟨vs, h, q, r⟩ := hc.at_ k a _ ea e
    exact .dct h (fun z => z.elim (fun z => hc.dj a z (List.mem_of_getElem? ea)) (nd_take hc.nd ea l)) q (Fzs.rps hc f r)
  | _, _, _, .t (k := k) l e f, .c (a := a) ea => by
    obtain ⟨vs, h, q, r⟩ := hc.at_ k a _ ea e
    exact .dcT h (fun z => z.elim (fun z => hc.dj a z (List.mem_of_getElem? ea)) (nd_take hc.nd ea l)) q (Fzs.rps hc f r)
  | _, _, _, .tp f, .t h nn r => .tup h (fun z => nn (z.elim .inl fun z => .inr (List.mem_of_mem_take z))) (Fzs.rps hc f r)
theorem Fzs.rps (hc : Cells K X A M H) : ∀ {d : List D} {p : List P} {v : List V}, Fzs n M d p → RDs K X A H v d → Rps K (XA X (A.take n)) H v p
  | _, _, _, .nil, .nil => .nil
  | _, _, _, .cons f t, .cons r s => .cons (Fz.rp hc f r) (Fzs.rps hc t s)
end
theorem Fz.rp0 (hc : Cells K X A M H) {d : D} {p : P} {v : V} (f : Fz 0 M d p) (r : RD K X A H v d) : Rp K X H v p := (Fz.rp hc f r).less fun _ z => .inl z
theorem Fzs.rps0 (hc : Cells K X A M H) {d : List D} {p : List P} {v : List V} (f : Fzs 0 M d p) (r : RDs K X A H v d) : Rps K X H v p := (Fzs.rps hc f r).less fun _ z => .inl z
end
end Z
set_option maxRecDepth 100000
set_option maxHeartbeats 4000000
/-! The calculus: what an expression, a test, arguments, a statement do to slots and cells. -/
namespace Z
open PySem PySem.Spec PyProof.Rows L2

structure St (K : PySem.W.Frag) (X : Addr → Prop) (A : List Addr) (M : Mem) (Γ : Env) (σ : L2.St) (H : Hp) : Prop where
  ce : Cells K X A M H
  sl : Sl K X A Γ σ H

/-- an expression: behind it the cells are M', its value is d: Φ M' d -/
def EV (K : PySem.W.Frag) (te : TE) (Γ : Env) (M : Mem) (Φ : Mem → D → Prop) : Prop :=
  ∀ (X : Addr → Prop) (A : List Addr) (σ : L2.St) (H : Hp), St K X A M Γ σ H → ∀ Q : VK, (∀ A' M' v d H', Tr A H A' H' → St K X A' M' Γ σ H' → RD K X A' H' v d → Φ M' d → Q v H') → te σ H Q
def EA (K : PySem.W.Frag) (ta : TA) (Γ : Env) (M : Mem) (Φ : Mem → List D → Prop) : Prop :=
  ∀ (X : Addr → Prop) (A : List Addr) (σ : L2.St) (H : Hp), St K X A M Γ σ H → ∀ Q : List V → Hp → Prop, (∀ A' M' v d H', Tr A H A' H' → St K X A' M' Γ σ H' → RDs K X A' H' v d → Φ M' d → Q v H') → ta σ H Q
def ET (K : PySem.W.Frag) (tt : TT) (Γ : Env) (M : Mem) (Φ : Mem → Bool → Prop) : Prop :=
  ∀ (X : Addr → Prop) (A : List Addr) (σ : L2.St) (H : Hp), St K X A M Γ σ H → ∀ Q : Bool → Hp → Prop, (∀ A' M' b H', Tr A H A' H' → St K X A' M' Γ σ H' → Φ M' b → Q b H') → tt σ H Q
/-- what is wanted behind a statement, over slots and cells -/
structure DE where
  nx : Env → Mem → Prop
  rt : Mem → D → Prop
  bk : Env → Mem → Prop := fun _ _ => False
  ct : Env → Mem → Prop := fun _ _ => False
structure Rz (K : PySem.W.Frag) (X : Addr → Prop) (A0 : List Addr) (H0 : Hp) (Dd : Ends) (E : DE) : Prop where
  nx : ∀ A M Γ σ H, Tr A0 H0 A H → St K X A M Γ σ H → E.nx Γ M → Dd.nx σ H
  rt : ∀ A M Γ σ H v d, Tr A0 H0 A H → St K X A M Γ σ H → RD K X A H v d → E.rt M d → Dd.rt v H
  bk : ∀ A M Γ σ H, Tr A0 H0 A H → St K X A M Γ σ H → E.bk Γ M → Dd.bk σ H
  ct : ∀ A M Γ σ H, Tr A0 H0 A H → St K X A M Γ σ H → E.ct Γ M → Dd.ct σ H
/-- a statement, a block; n: the cells below n are not ours to let go of -/
def SV (K : PySem.W.Frag) (n : Nat) (t : TS) (Γ : Env) (M : Mem) (E : DE) : Prop :=
  ∀ (X : Addr → Prop) (A0 : List Addr) (H0 : Hp), A0.length = n → ∀ (A : List Addr) (σ : L2.St) (H : Hp) (Dd : Ends), Tr A0 H0 A H → St K X A M Γ σ H → Rz K X A0 H0 Dd E → t Dd σ H

/-- the usual expression: it changes nothing and gives data -/
def EP (K : PySem.W.Frag) (te : TE) (Γ : Env) (M : Mem) (p : P) : Prop := EV K te Γ M fun M' d => M' = M ∧ d = .v p
/-- .. it gives data, or a cell that holds it -/
def EF (K : PySem.W.Frag) (te : TE) (Γ : Env) (M : Mem) (p : P) : Prop := EV K te Γ M fun M' d => M' = M ∧ Fz 0 M d p
def EPs (K : PySem.W.Frag) (ta : TA) (Γ : Env) (M : Mem) (ps : List P) : Prop := EA K ta Γ M fun M' ds => M' = M ∧ ds = ps.map .v
def EFs (K : PySem.W.Frag) (ta : TA) (Γ : Env) (M : Mem) (ps : List P) : Prop := EA K ta Γ M fun M' ds => M' = M ∧ Fzs 0 M ds ps
def EB (K : PySem.W.Frag) (tt : TT) (Γ : Env) (M : Mem) (b : Bool) : Prop := ET K tt Γ M fun M' b' => M' = M ∧ b' = b

section
variable {K : PySem.W.Frag} {te ta tb tc : TE} {tt tu : TT} {tar : TA} {Γ : Env} {M : Mem} {Φ Ψ : Mem → D → Prop} {Φs Ψs : Mem → List D → Prop} {Φt Ψt : Mem → Bool → Prop} {p q z : P} {ps : List P} {b c : Bool}
theorem St.tr {X : Addr → Prop} {A A' : List Addr} {σ : L2.St} {H H' : Hp} {M' : Mem} (s : St K X A M Γ σ H) (t : Tr A H A' H') (c : Cells K X A' M' H') : St K X A' M' Γ σ H' := ⟨c, t.sl s.sl⟩
theorem St.same {X : Addr → Prop} {A : List Addr} {σ : L2.St} {H H' : Hp} (s : St K X A M Γ σ H) (t : Same H H') : St K X A M Γ σ H' := ⟨s.ce.same t, (Tr.ofSame t).sl s.sl⟩
theorem EV.imp (h : EV K te Γ M Φ) (i : ∀ M' d, Φ M' d → Ψ M' d) : EV K te Γ M Ψ := fun X A σ H s Q q => h X A σ H s Q fun A' M' v d H' t s' r f => q A' M' v d H' t s' r (i _ _ f)
theorem EA.imp (h : EA K tar Γ M Φs) (i : ∀ M' d, Φs M' d → Ψs M' d) : EA K tar Γ M Ψs := fun X A σ H s Q q => h X A σ H s Q fun A' M' v d H' t s' r f => q A' M' v d H' t s' r (i _ _ f)
theorem ET.imp (h : ET K tt Γ M Φt) (i : ∀ M' d, Φt M' d → Ψt M' d) : ET K tt Γ M Ψt := fun X A σ H s Q q => h X A σ H s Q fun A' M' b H' t s' f => q A' M' b H' t s' (i _ _ f)
theorem ev_ep (h : EP K te Γ M p) (f : Φ M (.v p)) : EV K te Γ M Φ := h.imp fun M' d ⟨e1, e2⟩ => by rw [e1, e2]; exact f
theorem ea_ep (h : EPs K tar Γ M ps) (f : Φs M (ps.map .v)) : EA K tar Γ M Φs := h.imp fun M' d ⟨e1, e2⟩ => by rw [e1, e2]; exact f
theorem et_eb (h : EB K tt Γ M b) (f : Φt M b) : ET K tt Γ M Φt := h.imp fun M' d ⟨e1, e2⟩ => by rw [e1, e2]; exact f
theorem ef_ep (h : EP K te Γ M p) : EF K te Γ M p := h.imp fun M' d ⟨e1, e2⟩ => ⟨e1, by rw [e2]; exact .v p⟩
theorem efs_eps (h : EPs K tar Γ M ps) : EFs K tar Γ M ps := h.imp fun M' d ⟨e1, e2⟩ => ⟨e1, by rw [e2]; exact Fzs.vs 0 M ps⟩
theorem ep_is (h : EP K te Γ M p) (e : p = q) : EP K te Γ M q := e ▸ h
theorem eb_is (h : EB K tt Γ M b) (e : b = c) : EB K tt Γ M c := e ▸ h

/-! ### names, constants -/
theorem ev_var {i : Nat} {d : D} (e : Γ[i]? = some (some d)) (f : Φ M d) : EV K (tVar i) Γ M Φ := fun X A σ H s Q q => by
  obtain ⟨v, e1, r⟩ := s.sl.at_ i d e
  exact ⟨v, e1, q A M v d H .refl s r f⟩
theorem ep_var {i : Nat} (e : Γ[i]? = some (some (.v p))) : EP K (tVar i) Γ M p := ev_var e ⟨rfl, rfl⟩
theorem ef_var {i : Nat} {d : D} (e : Γ[i]? = some (some d)) (f : Fz 0 M d p) : EF K (tVar i) Γ M p := ev_var e ⟨rfl, f⟩
theorem ep_int {i : Int} : EP K (tC (.int i)) Γ M (.int i) := fun X A σ H s Q q => q A M _ _ H .refl s (.v (.int i)) ⟨rfl, rfl⟩
theorem ep_str {i : Str} : EP K (tC (.str i)) Γ M (.str i) := fun X A σ H s Q q => q A M _ _ H .refl s (.v (.str i)) ⟨rfl, rfl⟩
theorem ep_bl {i : Bool} : EP K (tC (.bl i)) Γ M (.bl i) := fun X A σ H s Q q => q A M _ _ H .refl s (.v (.bl i)) ⟨rfl, rfl⟩
theorem ep_non : EP K (tC .non) Γ M .non := fun X A σ H s Q q => q A M _ _ H .refl s (.v .non) ⟨rfl, rfl⟩

/-! ### operations by values -/
def RV (K : PySem.W.Frag) (r : R2) (p q z : P) : Prop := ∀ (X : Addr → Prop) (H : Hp) (x y : V), (∀ a, X a → ∃ o, H a = some o) → Rp K X H x p → Rp K X H y q → ∀ Q : VK, (∀ v H', Same H H' → Rp K X H' v z → Q v H') → r x y H Q
def RU (K : PySem.W.Frag) (r : V → Hp → VK → Prop) (p z : P) : Prop := ∀ (X : Addr → Prop) (H : Hp) (x : V), (∀ a, X a → ∃ o, H a = some o) → Rp K X H x p → ∀ Q : VK, (∀ v H', Same H H' → Rp K X H' v z → Q v H') → r x H Q
def RC (K : PySem.W.Frag) (r : List V → Hp → VK → Prop) (ps : List P) (z : P) : Prop := ∀ (X : Addr → Prop) (H : Hp) (xs : List V), (∀ a, X a → ∃ o, H a = some o) → Rps K X H xs ps → ∀ Q : VK, (∀ v H', Same H H' → Rp K X H' v z → Q v H') → r xs H Q
/-- data without objects -/
def flat : P → Bool
  | .non => true | .bl _ => true | .int _ => true | .str _ => true | _ => false
theorem flat_rp {X X' : Addr → Prop} {H H' : Hp} {v : V} (f : flat z = true) (r : Rp K X H v z) : Rp K X' H' v z := by
  cases r with
  | non => exact .non
  | bl b => exact .bl b
  | int i => exact .int i
  | str s => exact .str s
  | tup _ _ _ => cases f
  | tupK _ _ => cases f
  | lst _ _ _ => cases f
  | scr _ _ _ => cases f
  | scrK _ _ => cases f
  | ins _ _ _ _ => cases f
  | dct _ _ _ _ => cases f
  | dcT _ _ _ _ => cases f
theorem RD.toRp {X : Addr → Prop} {A : List Addr} {H : Hp} {v : V} (h : RD K X A H v (.v p)) : Rp K (XA X A) H v p := by
  cases h with
  | v r => exact r
/-- seen with the cells as data -/
theorem Cells.fz {X : Addr → Prop} {A : List Addr} {H : Hp} {v : V} {d : D} (c : Cells K X A M H) (f : Fz 0 M d p) (r : RD K X A H v d) : Rp K X H v p := Fz.rp0 c f r
theorem ep_op {r : R2} (ha : EP K ta Γ M p) (hb : EP K tb Γ M q) (hr : RV K r p q z) : EP K (tOp r ta tb) Γ M z := fun X A σ H s Q k =>
  ha X A σ H s _ fun A1 M1 v1 d1 H1 t1 s1 r1 ⟨e1, e2⟩ => by
    subst e1 e2
    refine hb X A1 σ H1 s1 _ fun A2 M2 v2 d2 H2 t2 s2 r2 ⟨e1, e2⟩ => ?_
    subst e1 e2
    exact hr (XA X A2) H2 v1 v2 s2.ce.xa (t2.rp r1.toRp) r2.toRp Q fun v H' sm rz => k A2 _ v (.v z) H' ((t1.trans t2).trans (.ofSame sm)) (s2.same sm) (.v rz) ⟨rfl, rfl⟩
theorem ef_op {r : R2} (ha : EF K ta Γ M p) (hb : EF K tb Γ M q) (hr : RV K r p q z) (hf : flat z = true) : EP K (tOp r ta tb) Γ M z := fun X A σ H s Q k =>
  ha X A σ H s _ fun A1 M1 v1 d1 H1 t1 s1 r1 ⟨e1, e2⟩ => by
    subst e1
    refine hb X A1 σ H1 s1 _ fun A2 M2 v2 d2 H2 t2 s2 r2 ⟨e1, e3⟩ => ?_
    subst e1
    exact hr X H2 v1 v2 s2.ce.xs (s2.ce.fz e2 (t2.rd r1)) (s2.ce.fz e3 r2) Q fun v H' sm rz => k A2 _ v (.v z) H' ((t1.trans t2).trans (.ofSame sm)) (s2.same sm) (.v (flat_rp hf rz)) ⟨rfl, rfl⟩
theorem ev_op {r : R2} (ha : EV K ta Γ M fun M1 d1 => ∃ p, d1 = .v p ∧ EV K tb Γ M1 fun M2 d2 => ∃ q, d2 = .v q ∧ ∃ z, RV K r p q z ∧ Φ M2 (.v z)) : EV K (tOp r ta tb) Γ M Φ := fun X A σ H s Q k =>
  ha X A σ H s _ fun A1 M1 v1 d1 H1 t1 s1 r1 ⟨p, e1, hb⟩ => by
    subst e1
    refine hb X A1 σ H1 s1 _ fun A2 M2 v2 d2 H2 t2 s2 r2 ⟨q, e1, z, hr, f⟩ => ?_
    subst e1
    exact hr (XA X A2) H2 v1 v2 s2.ce.xa (t2.rp r1.toRp) r2.toRp Q fun v H' sm rz => k A2 _ v (.v z) H' ((t1.trans t2).trans (.ofSame sm)) (s2.same sm) (.v rz) f
theorem ep_un {r : V → Hp → VK → Prop} (ha : EP K ta Γ M p) (hr : RU K r p z) : EP K (tUn r ta) Γ M z := fun X A σ H s Q k =>
  ha X A σ H s _ fun A1 M1 v1 d1 H1 t1 s1 r1 ⟨e1, e2⟩ => by
    subst e1 e2
    exact hr (XA X A1) H1 v1 s1.ce.xa r1.toRp Q fun v H' sm rz => k A1 _ v (.v z) H' (t1.trans (.ofSame sm)) (s1.same sm) (.v rz) ⟨rfl, rfl⟩
/-! ### arguments, displays, calls of built-ins -/
theorem eps_nil : EPs K tNil Γ M [] := fun X A σ H s Q q => q A M [] [] H .refl s .nil ⟨rfl, rfl⟩
theorem eps_cons (h : EP K ta Γ M p) (t : EPs K tar Γ M ps) : EPs K (tCons ta tar) Γ M (p :: ps) := fun X A σ H s Q k =>
  h X A σ H s _ fun A1 M1 v1 d1 H1 t1 s1 r1 ⟨e1, e2⟩ => by
    subst e1 e2
    refine t X A1 σ H1 s1 _ fun A2 M2 v2 d2 H2 t2 s2 r2 ⟨e1, e2⟩ => ?_
    subst e1 e2
    exact k A2 _ _ _ H2 (t1.trans t2) s2 (.cons (t2.rd r1) r2) ⟨rfl, rfl⟩
theorem efs_nil : EFs K tNil Γ M [] := fun X A σ H s Q q => q A M [] [] H .refl s .nil ⟨rfl, .nil⟩
theorem efs_cons (h : EF K ta Γ M p) (t : EFs K tar Γ M ps) : EFs K (tCons ta tar) Γ M (p :: ps) := fun X A σ H s Q k =>
  h X A σ H s _ fun A1 M1 v1 d1 H1 t1 s1 r1 ⟨e1, e2⟩ => by
    subst e1
    refine t X A1 σ H1 s1 _ fun A2 M2 v2 d2 H2 t2 s2 r2 ⟨e1, e3⟩ => ?_
    subst e1
    exact k A2 _ _ _ H2 (t1.trans t2) s2 (.cons (t2.rd r1) r2) ⟨rfl, .cons e2 e3⟩
theorem ea_nil (f : Φs M []) : EA K tNil Γ M Φs := fun X A σ H s Q q => q A M [] [] H .refl s .nil f
theorem ea_cons (h : EV K ta Γ M fun M1 d => EA K tar Γ M1 fun M2 ds => Φs M2 (d :: ds)) : EA K (tCons ta tar) Γ M Φs := fun X A σ H s Q k =>
  h X A σ H s _ fun A1 M1 v1 d1 H1 t1 s1 r1 t => t X A1 σ H1 s1 _ fun A2 M2 v2 d2 H2 t2 s2 r2 f => k A2 M2 _ _ H2 (t1.trans t2) s2 (.cons (t2.rd r1) r2) f
theorem ep_tup (h : EPs K tar Γ M ps) (hl : ps.length ≤ sizeLine) : EP K (tTup tar) Γ M (.tup ps) := fun X A σ H s Q k =>
  h X A σ H s _ fun A1 M1 v1 d1 H1 t1 s1 r1 ⟨e1, e2⟩ => by
    subst e1 e2
    have rr := r1.toRps
    refine ⟨by rw [Rps.length rr]; exact hl, fun p hp => ?_⟩
    exact k A1 _ _ (.v (.tup ps)) _ (t1.trans (.ofSame (same_new hp))) (s1.same (same_new hp)) (.v (Rp.newT s1.ce.xa hp rr)) ⟨rfl, rfl⟩
theorem ep_lst (h : EPs K tar Γ M ps) (hl : ps.length ≤ sizeLine) : EP K (tLst tar) Γ M (.lst ps) := fun X A σ H s Q k =>
  h X A σ H s _ fun A1 M1 v1 d1 H1 t1 s1 r1 ⟨e1, e2⟩ => by
    subst e1 e2
    have rr := r1.toRps
    refine ⟨by rw [Rps.length rr]; exact hl, fun p hp => ?_⟩
    exact k A1 _ _ (.v (.lst ps)) _ (t1.trans (.ofSame (same_new hp))) (s1.same (same_new hp)) (.v (Rp.newL s1.ce.xa hp rr)) ⟨rfl, rfl⟩
theorem ep_cb {r : List V → Hp → VK → Prop} (h : EPs K tar Γ M ps) (hr : RC K r ps z) : EP K (tCB r tar) Γ M z := fun X A σ H s Q k =>
  h X A σ H s _ fun A1 M1 v1 d1 H1 t1 s1 r1 ⟨e1, e2⟩ => by
    subst e1 e2
    exact hr (XA X A1) H1 v1 s1.ce.xa r1.toRps Q fun v H' sm rz => k A1 _ v (.v z) H' (t1.trans (.ofSame sm)) (s1.same sm) (.v rz) ⟨rfl, rfl⟩
theorem Cells.fzs {X : Addr → Prop} {A : List Addr} {H : Hp} {v : List V} {d : List D} (c : Cells K X A M H) (f : Fzs 0 M d ps) (r : RDs K X A H v d) : Rps K X H v ps := Fzs.rps0 c f r
theorem ef_cb {r : List V → Hp → VK → Prop} (h : EFs K tar Γ M ps) (hr : RC K r ps z) (hf : flat z = true) : EP K (tCB r tar) Γ M z := fun X A σ H s Q k =>
  h X A σ H s _ fun A1 M1 v1 d1 H1 t1 s1 r1 ⟨e1, e2⟩ => by
    subst e1
    exact hr X H1 v1 s1.ce.xs (s1.ce.fzs e2 r1) Q fun v H' sm rz => k A1 _ v (.v z) H' (t1.trans (.ofSame sm)) (s1.same sm) (.v (flat_rp hf rz)) ⟨rfl, rfl⟩
theorem ev_cb {r : List V → Hp → VK → Prop} (h : EA K tar Γ M fun M1 ds => ∃ ps, ds = ps.map .v ∧ ∃ z, RC K r ps z ∧ Φ M1 (.v z)) : EV K (tCB r tar) Γ M Φ := fun X A σ H s Q k =>
  h X A σ H s _ fun A1 M1 v1 d1 H1 t1 s1 r1 ⟨ps, e1, z, hr, f⟩ => by
    subst e1
    exact hr (XA X A1) H1 v1 s1.ce.xa r1.toRps Q fun v H' sm rz => k A1 _ v (.v z) H' (t1.trans (.ofSame sm)) (s1.same sm) (.v rz) f
/-! ### tests -/
theorem et_test (h : EV K te Γ M fun M' d => ∃ b, d = .v (.bl b) ∧ Φt M' b) : ET K (tTest te) Γ M Φt := fun X A σ H s Q k =>
  h X A σ H s _ fun A1 M1 v1 d1 H1 t1 s1 r1 ⟨b, e, f⟩ => by
    subst e
    cases r1 with
    | v r => cases r; exact ⟨b, rfl, k A1 M1 b H1 t1 s1 f⟩
theorem et_B (h : EV K te Γ M fun M' d => ∃ b, d = .v (.bl b) ∧ Φt M' b) : ET K (tB te) Γ M Φt := fun X A σ H s Q k =>
  h X A σ H s _ fun A1 M1 v1 d1 H1 t1 s1 r1 ⟨b, e, f⟩ => by
    subst e
    cases r1 with
    | v r => cases r; exact ⟨b, rfl, k A1 M1 b H1 t1 s1 f⟩
theorem eb_test (h : EP K te Γ M (.bl b)) : EB K (tTest te) Γ M b := et_test (ev_ep h ⟨b, rfl, rfl, rfl⟩)
theorem eb_B (h : EP K te Γ M (.bl b)) : EB K (tB te) Γ M b := et_B (ev_ep h ⟨b, rfl, rfl, rfl⟩)
theorem et_and (h : ET K tt Γ M fun M1 b1 => if b1 = true then ET K tu Γ M1 Φt else Φt M1 false) : ET K (tAnd tt tu) Γ M Φt := fun X A σ H s Q k =>
  h X A σ H s _ fun A1 M1 b1 H1 t1 s1 f => by
    cases b1 with
    | true => exact f X A1 σ H1 s1 Q fun A2 M2 b2 H2 t2 s2 f2 => k A2 M2 b2 H2 (t1.trans t2) s2 f2
    | false => exact k A1 M1 false H1 t1 s1 f
theorem et_or (h : ET K tt Γ M fun M1 b1 => if b1 = true then Φt M1 true else ET K tu Γ M1 Φt) : ET K (tOr tt tu) Γ M Φt := fun X A σ H s Q k =>
  h X A σ H s _ fun A1 M1 b1 H1 t1 s1 f => by
    cases b1 with
    | false => exact f X A1 σ H1 s1 Q fun A2 M2 b2 H2 t2 s2 f2 => k A2 M2 b2 H2 (t1.trans t2) s2 f2
    | true => exact k A1 M1 true H1 t1 s1 f
theorem et_not (h : ET K tt Γ M fun M1 b1 => Φt M1 (!b1)) : ET K (tNot tt) Γ M Φt := fun X A σ H s Q k =>
  h X A σ H s _ fun A1 M1 b1 H1 t1 s1 f => k A1 M1 (!b1) H1 t1 s1 f
theorem eb_and (h : EB K tt Γ M b) (h2 : b = true → EB K tu Γ M c) : EB K (tAnd tt tu) Γ M (b && c) := et_and (et_eb h (by cases b with
  | true => exact h2 rfl
  | false => exact ⟨rfl, rfl⟩))
theorem eb_or (h : EB K tt Γ M b) (h2 : b = false → EB K tu Γ M c) : EB K (tOr tt tu) Γ M (b || c) := et_or (et_eb h (by cases b with
  | false => exact h2 rfl
  | true => exact ⟨rfl, rfl⟩))
theorem eb_not (h : EB K tt Γ M b) : EB K (tNot tt) Γ M (!b) := et_not (et_eb h ⟨rfl, rfl⟩)
theorem ev_andV (h : EV K ta Γ M fun M1 d => ∃ b, d = .v (.bl b) ∧ if b = true then EV K tb Γ M1 Φ else Φ M1 (.v (.bl false))) : EV K (tAndV ta tb) Γ M Φ := fun X A σ H s Q k =>
  h X A σ H s _ fun A1 M1 v1 d1 H1 t1 s1 r1 ⟨b, e, f⟩ => by
    subst e
    cases r1 with
    | v r =>
      cases r
      refine ⟨b, rfl, ?_⟩
      cases b with
      | true => exact f X A1 σ H1 s1 Q fun A2 M2 v2 d2 H2 t2 s2 r2 f2 => k A2 M2 v2 d2 H2 (t1.trans t2) s2 r2 f2
      | false => exact k A1 M1 _ _ H1 t1 s1 (.v (.bl false)) f
theorem ev_orV (h : EV K ta Γ M fun M1 d => ∃ b, d = .v (.bl b) ∧ if b = true then Φ M1 (.v (.bl true)) else EV K tb Γ M1 Φ) : EV K (tOrV ta tb) Γ M Φ := fun X A σ H s Q k =>
  h X A σ H s _ fun A1 M1 v1 d1 H1 t1 s1 r1 ⟨b, e, f⟩ => by
    subst e
    cases r1 with
    | v r =>
      cases r
      refine ⟨b, rfl, ?_⟩
      cases b with
      | false => exact f X A1 σ H1 s1 Q fun A2 M2 v2 d2 H2 t2 s2 r2 f2 => k A2 M2 v2 d2 H2 (t1.trans t2) s2 r2 f2
      | true => exact k A1 M1 _ _ H1 t1 s1 (.v (.bl true)) f
theorem ep_andV (h : EP K ta Γ M (.bl b)) (h2 : b = true → EP K tb Γ M (.bl c)) : EP K (tAndV ta tb) Γ M (.bl (b && c)) := ev_andV (ev_ep h ⟨b, rfl, by cases b with
  | true => exact h2 rfl
  | false => exact ⟨rfl, rfl⟩⟩)
theorem ep_orV (h : EP K ta Γ M (.bl b)) (h2 : b = false → EP K tb Γ M (.bl c)) : EP K (tOrV ta tb) Γ M (.bl (b || c)) := ev_orV (ev_ep h ⟨b, rfl, by cases b with
  | false => exact h2 rfl
  | true => exact ⟨rfl, rfl⟩⟩)
theorem ep_notV (h : EP K ta Γ M (.bl b)) : EP K (tNotV ta) Γ M (.bl (!b)) := fun X A σ H s Q k =>
  h X A σ H s _ fun A1 M1 v1 d1 H1 t1 s1 r1 ⟨e1, e2⟩ => by
    subst e1 e2
    cases r1 with
    | v r => cases r; exact ⟨b, rfl, k A1 _ _ _ H1 t1 s1 (.v (.bl (!b))) ⟨rfl, rfl⟩⟩
theorem ev_if (h : ET K tt Γ M fun M1 b => if b = true then EV K ta Γ M1 Φ else EV K tb Γ M1 Φ) : EV K (tIf tt ta tb) Γ M Φ := fun X A σ H s Q k =>
  h X A σ H s _ fun A1 M1 b H1 t1 s1 f => by
    cases b with
    | true => exact f X A1 σ H1 s1 Q fun A2 M2 v2 d2 H2 t2 s2 r2 f2 => k A2 M2 v2 d2 H2 (t1.trans t2) s2 r2 f2
    | false => exact f X A1 σ H1 s1 Q fun A2 M2 v2 d2 H2 t2 s2 r2 f2 => k A2 M2 v2 d2 H2 (t1.trans t2) s2 r2 f2
theorem ep_if (h : EB K tt Γ M b) (h1 : b = true → EP K ta Γ M p) (h2 : b = false → EP K tb Γ M q) : EP K (tIf tt ta tb) Γ M (if b = true then p else q) := ev_if (et_eb h (by cases b with
  | true => exact h1 rfl
  | false => exact h2 rfl))
/-- x is None -/
def isNon : P → Bool
  | .non => true
  | _ => false
theorem isNon_ok {X : Addr → Prop} {H : Hp} {v : V} (r : Rp K X H v p) : decide (v = .non) = isNon p := by
  cases r <;> rfl
theorem ep_isN (h : EF K ta Γ M p) : EP K (tIsN ta) Γ M (.bl (isNon p)) := fun X A σ H s Q k =>
  h X A σ H s _ fun A1 M1 v1 d1 H1 t1 s1 r1 ⟨e1, e2⟩ => by
    subst e1
    show Q (.bl (decide (v1 = .non))) H1
    rw [isNon_ok (s1.ce.fz e2 r1)]
    exact k A1 _ _ _ H1 t1 s1 (.v (.bl _)) ⟨rfl, rfl⟩
theorem ep_notN (h : EF K ta Γ M p) : EP K (tNotN ta) Γ M (.bl (!isNon p)) := fun X A σ H s Q k =>
  h X A σ H s _ fun A1 M1 v1 d1 H1 t1 s1 r1 ⟨e1, e2⟩ => by
    subst e1
    show Q (.bl (!decide (v1 = .non))) H1
    rw [isNon_ok (s1.ce.fz e2 r1)]
    exact k A1 _ _ _ H1 t1 s1 (.v (.bl _)) ⟨rfl, rfl⟩
end

/-! ### statements -/
section
variable {K : PySem.W.Frag} {n : Nat} {te ta tb : TE} {tt : TT} {t u : TS} {Γ Γ' : Env} {M M' : Mem} {E E' : DE} {p : P} {b : Bool}
theorem Rz.step {X : Addr → Prop} {A0 A : List Addr} {H0 H : Hp} {Dd : Ends} (z : Rz K X A0 H0 Dd E) (t : Tr A0 H0 A H) : Rz K X A H Dd E :=
  ⟨fun A1 M Γ σ H1 t1 => z.nx A1 M Γ σ H1 (t.trans t1), fun A1 M Γ σ H1 v d t1 => z.rt A1 M Γ σ H1 v d (t.trans t1), fun A1 M Γ σ H1 t1 => z.bk A1 M Γ σ H1 (t.trans t1), fun A1 M Γ σ H1 t1 => z.ct A1 M Γ σ H1 (t.trans t1)⟩
theorem SV.imp (h : SV K n t Γ M E) (nx : ∀ Γ M, E.nx Γ M → E'.nx Γ M) (rt : ∀ M d, E.rt M d → E'.rt M d) (bk : ∀ Γ M, E.bk Γ M → E'.bk Γ M) (ct : ∀ Γ M, E.ct Γ M → E'.ct Γ M) : SV K n t Γ M E' :=
  fun X A0 H0 l A σ H Dd tr s z => h X A0 H0 l A σ H Dd tr s ⟨fun A1 M1 Γ1 σ1 H1 t1 s1 e => z.nx A1 M1 Γ1 σ1 H1 t1 s1 (nx _ _ e), fun A1 M1 Γ1 σ1 H1 v d t1 s1 r e => z.rt A1 M1 Γ1 σ1 H1 v d t1 s1 r (rt _ _ e), fun A1 M1 Γ1 σ1 H1 t1 s1 e => z.bk A1 M1 Γ1 σ1 H1 t1 s1 (bk _ _ e), fun A1 M1 Γ1 σ1 H1 t1 s1 e => z.ct A1 M1 Γ1 σ1 H1 t1 s1 (ct _ _ e)⟩
theorem sv_seq (h : SV K n t Γ M { E with nx := fun Γ' M' => SV K n u Γ' M' E }) : SV K n (tSeq t u) Γ M E := fun X A0 H0 l A σ H Dd tr s z =>
  h X A0 H0 l A σ H { Dd with nx := u Dd } tr s ⟨fun A1 M1 Γ1 σ1 H1 t1 s1 e => e X A0 H0 l A1 σ1 H1 Dd t1 s1 z, z.rt, z.bk, z.ct⟩
theorem sv_next (h : E.nx Γ M) : SV K n tNext Γ M E := fun X A0 H0 l A σ H Dd tr s z => z.nx A M Γ σ H tr s h
theorem sv_break (h : E.bk Γ M) : SV K n tBreak Γ M E := fun X A0 H0 l A σ H Dd tr s z => z.bk A M Γ σ H tr s h
theorem sv_cont (h : E.ct Γ M) : SV K n tCont Γ M E := fun X A0 H0 l A σ H Dd tr s z => z.ct A M Γ σ H tr s h
theorem Sl.set {X : Addr → Prop} {A : List Addr} {σ : L2.St} {H : Hp} {v : V} {d : D} (s : Sl K X A Γ σ H) (i : Nat) (r : RD K X A H v d) : Sl K X A (Γ.set i (some d)) (σ.set i (some v)) H := by
  refine ⟨by rw [List.length_set, List.length_set]; exact s.len, fun j d' e => ?_⟩
  by_cases hij : i = j
  · subst hij
    have hl : i < Γ.length := by
      have := (List.getElem?_eq_some_iff.mp e).1
      rwa [List.length_set] at this
    rw [List.getElem?_set_self hl] at e
    cases e
    exact ⟨v, List.getElem?_set_self (by rw [s.len]; exact hl), r⟩
  · rw [List.getElem?_set_ne hij] at e ⊢
    exact s.at_ j d' e
theorem sv_asg {i : Nat} (h : EV K te Γ M fun M' d => E.nx (Γ.set i (some d)) M') : SV K n (tAsg te (gName i)) Γ M E := fun X A0 H0 l A σ H Dd tr s z =>
  h X A σ H s _ fun A1 M1 v d H1 t1 s1 r f => z.nx A1 M1 _ _ H1 (tr.trans t1) ⟨s1.ce, s1.sl.set i r⟩ f
theorem sv_set {i : Nat} (h : EP K te Γ M p) (f : E.nx (Γ.set i (some (.v p))) M) : SV K n (tAsg te (gName i)) Γ M E := sv_asg (ev_ep h f)
theorem sv_ret (h : EV K te Γ M fun M' d => E.rt M' d) : SV K n (tRet te) Γ M E := fun X A0 H0 l A σ H Dd tr s z =>
  h X A σ H s _ fun A1 M1 v d H1 t1 s1 r f => z.rt A1 M1 Γ σ H1 v d (tr.trans t1) s1 r f
theorem sv_retN (h : E.rt M (.v .non)) : SV K n tRetN Γ M E := fun X A0 H0 l A σ H Dd tr s z => z.rt A M Γ σ H .non (.v .non) tr s (.v .non) h
theorem sv_drop (h : EV K te Γ M fun M' d => E.nx Γ M') : SV K n (tDrop te) Γ M E := fun X A0 H0 l A σ H Dd tr s z =>
  h X A σ H s _ fun A1 M1 v d H1 t1 s1 r f => z.nx A1 M1 Γ σ H1 (tr.trans t1) s1 f
theorem sv_if (h : ET K tt Γ M fun M' b => if b = true then SV K n t Γ M' E else SV K n u Γ M' E) : SV K n (tIfS tt t u) Γ M E := fun X A0 H0 l A σ H Dd tr s z =>
  h X A σ H s _ fun A1 M1 b H1 t1 s1 f => by
    cases b with
    | true => exact f X A0 H0 l A1 σ H1 Dd (tr.trans t1) s1 z
    | false => exact f X A0 H0 l A1 σ H1 Dd (tr.trans t1) s1 z
theorem sv_ifB (h : EB K tt Γ M b) (h1 : b = true → SV K n t Γ M E) (h2 : b = false → SV K n u Γ M E) : SV K n (tIfS tt t u) Γ M E := sv_if (et_eb h (by cases b with
  | true => exact h1 rfl
  | false => exact h2 rfl))
/-- other slots and cells that say less, or say it otherwise -/
def Nrm (K : PySem.W.Frag) (n : Nat) (Γ : Env) (M : Mem) (Γ' : Env) (M' : Mem) : Prop :=
  ∀ (X : Addr → Prop) (A0 A : List Addr) (H0 H : Hp) (σ : L2.St), A0.length = n → Tr A0 H0 A H → St K X A M Γ σ H → ∃ A', Tr A0 H0 A' H ∧ St K X A' M' Γ' σ H
theorem Nrm.refl : Nrm K n Γ M Γ M := fun _ _ A _ _ _ _ t s => ⟨A, t, s⟩
theorem Nrm.trans {Γ2 : Env} {M2 : Mem} (a : Nrm K n Γ M Γ' M') (b : Nrm K n Γ' M' Γ2 M2) : Nrm K n Γ M Γ2 M2 := fun X A0 A H0 H σ l t s => by
  obtain ⟨A1, t1, s1⟩ := a X A0 A H0 H σ l t s
  exact b X A0 A1 H0 H σ l t1 s1
theorem sv_nrm (m : Nrm K n Γ M Γ' M') (h : SV K n t Γ' M' E) : SV K n t Γ M E := fun X A0 H0 l A σ H Dd tr s z => by
  obtain ⟨A1, t1, s1⟩ := m X A0 A H0 H σ l tr s
  exact h X A0 H0 l A1 σ H Dd t1 s1 z
/-- slots forgotten -/
theorem nrm_slots (hl : Γ'.length = Γ.length) (h : ∀ (i : Nat) (d : D), Γ'[i]? = some (some d) → Γ[i]? = some (some d)) : Nrm K n Γ M Γ' M := fun X A0 A H0 H σ l t s => ⟨A, t, s.ce, by rw [s.sl.len, hl], fun i d e => s.sl.at_ i d (h i d e)⟩
end
end Z
set_option maxRecDepth 100000
set_option maxHeartbeats 4000000
/-! The calculus: loops, comprehensions, cells. -/
namespace Z
open PySem PySem.Spec PyProof.Rows L2

/-- from (X, A, H) to (X', A', H'): what stood outside X and A stands, outside X' and A' -/
structure TrX (X : Addr → Prop) (A : List Addr) (H : Hp) (X' : Addr → Prop) (A' : List Addr) (H' : Hp) : Prop where
  keep : ∀ a o, H a = some o → ¬ XA X A a → H' a = some o
  new : ∀ a o, H a = some o → ¬ XA X A a → ¬ XA X' A' a
section
variable {K : PySem.W.Frag} {X X' : Addr → Prop} {A A' : List Addr} {H H' : Hp} {M M' : Mem} {Γ : Env} {σ : L2.St}
theorem TrX.rp (t : TrX X A H X' A' H') {v : V} {d : P} (h : Rp K (XA X A) H v d) : Rp K (XA X' A') H' v d := h.mono t.keep t.new
theorem TrX.rps (t : TrX X A H X' A' H') {v : List V} {d : List P} (h : Rps K (XA X A) H v d) : Rps K (XA X' A') H' v d := h.mono t.keep t.new
theorem Tr.x (t : Tr A H A' H') : TrX X A H X A' H' := by
  obtain ⟨B, e, f⟩ := t.ext
  refine ⟨fun a o q n => t.keep a o q fun z => n (.inr z), fun a o q n z => ?_⟩
  rcases z with z | z
  · exact n (.inl z)
  · rw [e] at z
    rcases List.mem_append.mp z with z | z
    · exact n (.inr z)
    · rw [f a z] at q
      cases q
/-- one more address that was free -/
abbrev X1 (X : Addr → Prop) (p : Addr) : Addr → Prop := fun a => X a ∨ a = p
theorem TrX.more {p : Addr} (t : TrX X A H X A' H') (hp : H p = none) : TrX X A H (X1 X p) A' H' := ⟨t.keep, fun a o q n z => by
  rcases z with (z | z) | z
  · exact t.new a o q n (.inl z)
  · rw [z, hp] at q
    cases q
  · exact t.new a o q n (.inr z)⟩
theorem Tr.updF {p : Addr} {o : HO} (t : Tr A H A' H') (hp : H p = none) : Tr A H A' (upd H' p o) := ⟨t.ext, fun a u e n => by
  rw [upd_ne (ne_of_none e hp)]
  exact t.keep a u e n, fun a u e => by
  rw [upd_ne (ne_of_none e hp)]
  exact t.stay a u e⟩
mutual
theorem RD.trx (t : TrX X A H X' A' H') (l : ∀ (k : Nat) (a : Addr), A[k]? = some a → A'[k]? = some a) : ∀ {v : V} {d : D}, RD K X A H v d → RD K X' A' H' v d
  | _, _, .v r => .v (t.rp r)
  | _, _, .c e => .c (l _ _ e)
  | _, _, .t (a := a) h n r => .t (Rd.keep h fun o e => t.keep a o e n) (let ⟨o, e⟩ := Rd.is h; t.new a o e n) (RDs.trx t l r)
theorem RDs.trx (t : TrX X A H X' A' H') (l : ∀ (k : Nat) (a : Addr), A[k]? = some a → A'[k]? = some a) : ∀ {v : List V} {d : List D}, RDs K X A H v d → RDs K X' A' H' v d
  | _, _, .nil => .nil
  | _, _, .cons h r => .cons (RD.trx t l h) (RDs.trx t l r)
end
theorem CellAt.trx (t : TrX X A H X' A' H') (l : ∀ (k : Nat) (a : Addr), A[k]? = some a → A'[k]? = some a) {a : Addr} {c : MC} (k : ∀ o, H a = some o → H' a = some o) (h : CellAt K X A H a c) : CellAt K X' A' H' a c := by
  cases c with
  | l ds => obtain ⟨xs, e, r⟩ := h; exact ⟨xs, k _ e, r.trx t l⟩
  | o C ks ds => obtain ⟨dx, vs, e, q, r⟩ := h; exact ⟨dx, vs, k _ e, q, r.trx t l⟩
  | d ks ds => obtain ⟨vs, e, q, r⟩ := h; exact ⟨vs, k _ e, q, r.trx t l⟩
  | t ks ds => obtain ⟨vs, e, q, r⟩ := h; exact ⟨vs, k _ e, q, r.trx t l⟩
  | f u ks ds => obtain ⟨vs, ⟨e, o⟩, q, r⟩ := h; exact ⟨vs, ⟨k _ e, o⟩, q, r.trx t l⟩
/-- everything as it stands, another set to keep away from -/
theorem St.reX (s : St K X A M Γ σ H) (t : TrX X A H X' A H') (k : ∀ a ∈ A, ∀ o, H a = some o → H' a = some o) (xs : ∀ a, X' a → ∃ o, H' a = some o) (dj : ∀ a, X' a → a ∉ A) : St K X' A M Γ σ H' :=
  ⟨⟨s.ce.nd, s.ce.len, fun j a c e1 e2 => (s.ce.at_ j a c e1 e2).trx t (fun _ _ e => e) (k a (List.mem_of_getElem? e1)), xs, dj⟩, s.sl.len, fun i d e => by
    obtain ⟨v, e1, r⟩ := s.sl.at_ i d e
    exact ⟨v, e1, r.trx t fun _ _ e => e⟩⟩
/-- a new object, to be kept away from -/
theorem St.fresh {p : Addr} {o : HO} (s : St K X A M Γ σ H) (hp : H p = none) : St K (X1 X p) A M Γ σ (upd H p o) := by
  have sm := same_new (o := o) hp
  refine s.reX ⟨fun a u e _ => sm a u e, fun a u e n z => ?_⟩ (fun a _ u e => sm a u e) (fun a z => ?_) fun a z ha => ?_
  · rcases z with (z | z) | z
    · exact n (.inl z)
    · rw [z, hp] at e
      cases e
    · exact n (.inr z)
  · rcases z with z | z
    · obtain ⟨u, e⟩ := s.ce.xs a z
      exact ⟨u, sm a u e⟩
    · exact ⟨o, by rw [z]; exact upd_same⟩
  · rcases z with z | z
    · exact s.ce.dj a z ha
    · obtain ⟨u, e⟩ := s.ce.is ha
      rw [z, hp] at e
      cases e
/-- an object that is kept away from changes -/
theorem St.updX {p : Addr} {o : HO} (s : St K X A M Γ σ H) (hp : X p) : St K X A M Γ σ (upd H p o) := by
  refine s.reX ⟨fun a u e n => ?_, fun a u e n => n⟩ (fun a ha u e => ?_) (fun a z => ?_) s.ce.dj
  · rw [upd_ne (show a ≠ p from fun z => n (.inl (by rw [z]; exact hp)))]
    exact e
  · rw [upd_ne (show a ≠ p from fun z => s.ce.dj p hp (by rw [← z]; exact ha))]
    exact e
  · by_cases h : a = p
    · rw [h]
      exact ⟨o, upd_same⟩
    · rw [upd_ne h]
      exact s.ce.xs a z
theorem St.lessX (s : St K X' A M Γ σ H) (h : ∀ a, X a → X' a) : St K X A M Γ σ H :=
  s.reX ⟨fun a u e _ => e, fun a u e n z => n (z.elim (fun z => .inl (h a z)) .inr)⟩ (fun a _ u e => e) (fun a z => s.ce.xs a (h a z)) fun a z => s.ce.dj a (h a z)
/-- a cell's content changes -/
theorem St.put {a : Addr} {k : Nat} {o : HO} {c : MC} (s : St K X A M Γ σ H) (e : A[k]? = some a) (new : CellAt K X A (upd H a o) a c) : Tr A H A (upd H a o) ∧ St K X A (M.set k c) Γ σ (upd H a o) := by
  have ha := List.mem_of_getElem? e
  have t : Tr A H A (upd H a o) := ⟨⟨[], by simp, by simp⟩, fun b u q n => by
    rw [upd_ne (show b ≠ a from fun z => n (by rw [z]; exact ha))]
    exact q, fun b u q => by
    by_cases h : b = a
    · rw [h]
      exact ⟨o, upd_same⟩
    · rw [upd_ne h]
      exact ⟨u, q⟩⟩
  refine ⟨t, ⟨s.ce.nd, by rw [List.length_set]; exact s.ce.len, fun j b m e1 e2 => ?_, fun b z => ?_, s.ce.dj⟩, t.sl s.sl⟩
  · by_cases hj : k = j
    · subst hj
      rw [e] at e1
      cases e1
      have hl : k < M.length := by
        have := (List.getElem?_eq_some_iff.mp e2).1
        rwa [List.length_set] at this
      rw [List.getElem?_set_self hl] at e2
      cases e2
      exact new
    · rw [List.getElem?_set_ne hj] at e2
      have hb : b ≠ a := fun z => hj ((List.getElem?_inj (List.getElem?_eq_some_iff.mp e).1 s.ce.nd).mp (e.trans (by rw [← z]; exact e1.symm)))
      exact (s.ce.at_ j b m e1 e2).tr t fun u q => by
        rw [upd_ne hb]
        exact q
  · obtain ⟨u, q⟩ := s.ce.xs b z
    exact t.stay b u q
/-- a new object becomes a cell -/
theorem St.cell {p : Addr} {c : MC} (s : St K (X1 X p) A M Γ σ H) (hx : ¬ X p) (new : CellAt K (X1 X p) A H p c) : St K X (A ++ [p]) (M ++ [c]) Γ σ H := by
  have lk : ∀ (k : Nat) (a : Addr), A[k]? = some a → (A ++ [p])[k]? = some a := fun k a e => by
    rw [List.getElem?_append_left (List.getElem?_eq_some_iff.mp e).1]
    exact e
  have t : TrX (X1 X p) A H X (A ++ [p]) H := ⟨fun _ _ e _ => e, fun a o _ n z => by
    rcases z with z | z
    · exact n (.inl (.inl z))
    · rcases List.mem_append.mp z with z | z
      · exact n (.inr z)
      · exact n (.inl (.inr (List.mem_singleton.mp z)))⟩
  refine ⟨⟨?_, by rw [List.length_append, List.length_append, s.ce.len]; rfl, fun k a m e1 e2 => ?_, fun a z => s.ce.xs a (.inl z), fun a z ha' => ?_⟩, s.sl.len, fun i d e => ?_⟩
  · refine List.nodup_append.mpr ⟨s.ce.nd, List.nodup_cons.mpr ⟨by simp, List.nodup_nil⟩, fun a h1 b h2 => ?_⟩
    rw [List.mem_singleton.mp h2]
    exact fun z => s.ce.dj p (.inr rfl) (z ▸ h1)
  · by_cases hk : k < A.length
    · rw [List.getElem?_append_left hk] at e1
      rw [List.getElem?_append_left (by rw [← s.ce.len]; exact hk)] at e2
      exact (s.ce.at_ k a m e1 e2).trx t lk fun _ e => e
    · have hk2 : k = A.length := by
        have := (List.getElem?_eq_some_iff.mp e1).1
        rw [List.length_append, List.length_singleton] at this
        omega
      subst hk2
      rw [List.getElem?_append_right (Nat.le_refl _), Nat.sub_self] at e1
      rw [List.getElem?_append_right (by rw [s.ce.len]; exact Nat.le_refl _), s.ce.len, Nat.sub_self] at e2
      cases e1
      cases e2
      exact new.trx t lk fun _ e => e
  · rcases List.mem_append.mp ha' with h | h
    · exact s.ce.dj a (.inl z) h
    · rw [List.mem_singleton.mp h] at z
      exact hx z
  · obtain ⟨v, e1, r⟩ := s.sl.at_ i d e
    exact ⟨v, e1, r.trx t lk⟩
theorem Tr.cell {p : Addr} {A0 : List Addr} {H0 : Hp} (t : Tr A0 H0 A H) (hp : H0 p = none) : Tr A0 H0 (A ++ [p]) H := by
  obtain ⟨B, e, f⟩ := t.ext
  refine ⟨⟨B ++ [p], by rw [e, List.append_assoc], fun b hb => ?_⟩, t.keep, t.stay⟩
  rcases List.mem_append.mp hb with h | h
  · exact f b h
  · rw [List.mem_singleton.mp h]
    exact hp
theorem RDs.lessX {vs : List V} {ds : List D} (r : RDs K X' A H vs ds) (h : ∀ a, X a → X' a) : RDs K X A H vs ds :=
  r.trx ⟨fun _ _ e _ => e, fun a u e n z => n (z.elim (fun z => .inl (h a z)) .inr)⟩ fun _ _ e => e
end

/-! ### a list made new: a cell, or data -/
/-- a new list of ds: at p, which nothing else holds -/
def EN (K : PySem.W.Frag) (te : TE) (Γ : Env) (M : Mem) (Φ : Mem → List D → Prop) : Prop :=
  ∀ (X : Addr → Prop) (A : List Addr) (σ : L2.St) (H : Hp), St K X A M Γ σ H → ∀ Q : VK, (∀ A' M' p xs ds H', Tr A H A' H' → H p = none → St K (X1 X p) A' M' Γ σ H' → H' p = some (.lst xs) → RDs K (X1 X p) A' H' xs ds → Φ M' ds → Q (.ref p) H') → te σ H Q
section
variable {K : PySem.W.Frag} {te ta tb : TE} {tar : TA} {Γ : Env} {M : Mem} {Φ : Mem → D → Prop} {Φn Ψn : Mem → List D → Prop} {p : P} {ps : List P}
theorem EN.imp (h : EN K te Γ M Φn) (i : ∀ M' d, Φn M' d → Ψn M' d) : EN K te Γ M Ψn := fun X A σ H s Q q => h X A σ H s Q fun A' M' p xs ds H' t hp s' e r f => q A' M' p xs ds H' t hp s' e r (i _ _ f)
theorem ev_cell (h : EN K te Γ M fun M' ds => Φ (M' ++ [.l ds]) (.c M'.length)) : EV K te Γ M Φ := fun X A σ H s Q q =>
  h X A σ H s Q fun A' M' p xs ds H' t hp s' e r f => by
    have hx : ¬ X p := fun z => by
      obtain ⟨o, e⟩ := s.ce.xs p z
      rw [hp] at e
      cases e
    refine q (A' ++ [p]) _ _ _ H' (t.cell hp) (s'.cell hx (c := .l ds) ⟨xs, e, r⟩) (.c ?_) f
    rw [List.getElem?_append_right (by rw [s'.ce.len]; exact Nat.le_refl _), s'.ce.len, Nat.sub_self]
    rfl
theorem ev_new (h : EN K te Γ M fun M' ds => ∃ ps, ds = ps.map .v ∧ Φ M' (.v (.lst ps))) : EV K te Γ M Φ := fun X A σ H s Q q =>
  h X A σ H s Q fun A' M' p xs ds H' t hp s' e r ⟨ps, ed, f⟩ => by
    subst ed
    refine q A' M' _ _ H' t (s'.lessX fun _ z => .inl z) (.v (.lst e ?_ ?_)) f
    · rintro (z | z)
      · obtain ⟨o, e⟩ := s.ce.xs p z
        rw [hp] at e
        cases e
      · exact s'.ce.dj p (.inr rfl) z
    · exact (r.lessX fun _ z => .inl z).toRps
theorem en_lst (h : EA K tar Γ M fun M' ds => ds.length ≤ sizeLine ∧ Φn M' ds) : EN K (tLst tar) Γ M Φn := fun X A σ H s Q q =>
  h X A σ H s _ fun A' M' vs ds H' t s' r ⟨hl, f⟩ => by
    refine ⟨by rw [r.length]; exact hl, fun p hp => ?_⟩
    have hp0 : H p = none := by
      cases e : H p with
      | none => rfl
      | some o =>
        obtain ⟨u, q⟩ := t.stay p o e
        rw [hp] at q
        cases q
    have tx : TrX X A' H' (X1 X p) A' (upd H' p (.lst vs)) := (Tr.ofSame (same_new hp)).x.more hp
    exact q A' M' p vs ds _ (t.trans (.ofSame (same_new hp))) hp0 (s'.fresh hp) upd_same (r.trx tx fun _ _ e => e) f
end

/-! ### what a for walks -/
def Wk (K : PySem.W.Frag) (X : Addr → Prop) (A : List Addr) (H : Hp) (J : It) (items : List P) : Prop :=
  ∃ (G : Hp → Prop) (Y : Nat → Hp → V → Hp → Prop), Walk J items.length G Y ∧ ∀ X' A' H1, TrX X A H X' A' H1 → G H1 ∧ ((∀ a, XA X' A' a → ∃ o, H1 a = some o) →
    ∀ i x H2, i < items.length → Y i H1 x H2 → Same H1 H2 ∧ ∃ p, items[i]? = some p ∧ Rp K (XA X' A') H2 x p)
def EI (K : PySem.W.Frag) (wi : TI) (Γ : Env) (M : Mem) (Φ : Mem → List P → Prop) : Prop :=
  ∀ (X : Addr → Prop) (A : List Addr) (σ : L2.St) (H : Hp), St K X A M Γ σ H → ∀ R : It → Hp → Prop, (∀ A' M' items J H', Tr A H A' H' → St K X A' M' Γ σ H' → Wk K X A' H' J items → Φ M' items → R J H') → wi σ H R
def EIp (K : PySem.W.Frag) (wi : TI) (Γ : Env) (M : Mem) (items : List P) : Prop := EI K wi Γ M fun M' its => M' = M ∧ its = items
/-- a target -/
def GV (K : PySem.W.Frag) (g : TG) (p : P) (Γ : Env) (M : Mem) (Ψ : Env → Prop) : Prop :=
  ∀ (X : Addr → Prop) (A : List Addr) (σ : L2.St) (H : Hp) (v : V), St K X A M Γ σ H → Rp K (XA X A) H v p → ∀ Q : L2.St → Hp → Prop, (∀ Γ' σ', St K X A M Γ' σ' H → Ψ Γ' → Q σ' H) → g v σ H Q
def GVs (K : PySem.W.Frag) (g : TGs) (ps : List P) (Γ : Env) (M : Mem) (Ψ : Env → Prop) : Prop :=
  ∀ (X : Addr → Prop) (A : List Addr) (σ : L2.St) (H : Hp) (vs : List V), St K X A M Γ σ H → Rps K (XA X A) H vs ps → ∀ Q : L2.St → Hp → Prop, (∀ Γ' σ', St K X A M Γ' σ' H → Ψ Γ' → Q σ' H) → g vs σ H Q
section
variable {K : PySem.W.Frag} {Γ : Env} {M : Mem} {Ψ : Env → Prop} {p : P} {ps : List P} {g : TG} {gs : TGs} {Φ : Mem → List P → Prop}
theorem gv_name {i : Nat} (f : Ψ (Γ.set i (some (.v p)))) : GV K (gName i) p Γ M Ψ := fun X A σ H v s r Q q => q _ _ ⟨s.ce, s.sl.set i (.v r)⟩ f
theorem gvs_nil (f : Ψ Γ) : GVs K gNil [] Γ M Ψ := fun X A σ H vs s r Q q => by
  cases r
  exact ⟨rfl, q _ _ s f⟩
theorem gvs_cons (h : GV K g p Γ M fun Γ' => GVs K gs ps Γ' M Ψ) : GVs K (gCons g gs) (p :: ps) Γ M Ψ := fun X A σ H vs s r Q q => by
  cases r with
  | cons r1 r2 =>
    refine ⟨_, _, rfl, h X A σ H _ s r1 _ fun Γ' σ' s' f => ?_⟩
    exact f X A σ' H _ s' r2 Q q
theorem gv_tup {n : Nat} (hn : ps.length = n) (h : GVs K gs ps Γ M Ψ) : GV K (gTup K n gs) (.tup ps) Γ M Ψ := fun X A σ H v s r Q q => by
  obtain ⟨a, xs, e, hq, rs⟩ := r.tupOf
  subst e
  exact ⟨a, xs, rfl, hq, by rw [Rps.length rs]; exact hn, h X A σ H xs s rs Q q⟩
theorem TrX.sqT {X X' : Addr → Prop} {A A' : List Addr} {H H' : Hp} (t : TrX X A H X' A' H') {v : V} (r : Rp K (XA X A) H v (.tup ps)) : ∃ p xs, v = .ref p ∧ (∀ X' A' H', TrX X A H X' A' H' → SqT K H' p xs) ∧ Rps K (XA X A) H xs ps := by
  cases r with
  | tup h n r => exact ⟨_, _, rfl, fun X' A' H' t => .inl (Rd.keep h fun o e => t.keep _ o e n), r⟩
  | tupK h r => exact ⟨_, _, rfl, fun X' A' H' t => .inr h, r⟩
theorem sqT_of {X : Addr → Prop} {A : List Addr} {H : Hp} {v : V} (r : Rp K (XA X A) H v (.tup ps)) : ∃ p xs, v = .ref p ∧ (∀ X' A' H', TrX X A H X' A' H' → SqT K H' p xs) ∧ Rps K (XA X A) H xs ps := by
  cases r with
  | tup h n r => exact ⟨_, _, rfl, fun X' A' H' t => .inl (Rd.keep h fun o e => t.keep _ o e n), r⟩
  | tupK h r => exact ⟨_, _, rfl, fun X' A' H' t => .inr h, r⟩
theorem sqL_of {X : Addr → Prop} {A : List Addr} {H : Hp} {v : V} (r : Rp K (XA X A) H v (.lst ps)) : ∃ p xs, v = .ref p ∧ (∀ X' A' H', TrX X A H X' A' H' → SqL K H' p xs) ∧ Rps K (XA X A) H xs ps := by
  cases r with
  | lst h n r => exact ⟨_, _, rfl, fun X' A' H' t => .inl (.inl (t.keep _ _ h n)), r⟩
theorem TrX.refl {X : Addr → Prop} {A : List Addr} {H : Hp} : TrX X A H X A H := ⟨fun _ _ e _ => e, fun _ _ _ n => n⟩
theorem wk_list {X : Addr → Prop} {A : List Addr} {H : Hp} {a : Addr} {xs : List V} (h : ∀ X' A' H', TrX X A H X' A' H' → SqL K H' a xs) (r : Rps K (XA X A) H xs ps) : Wk K X A H (Itl K a) ps :=
  ⟨_, _, by rw [← Rps.length r]; exact walk_list, fun X' A' H1 t => ⟨h X' A' H1 t, fun hx i x H2 hi y => by
    obtain ⟨e, y⟩ := y
    subst e
    obtain ⟨d, e1, r1⟩ := Rps.getV r y
    exact ⟨fun _ _ e => e, d, e1, t.rp r1⟩⟩⟩
theorem wk_tup {X : Addr → Prop} {A : List Addr} {H : Hp} {a : Addr} {xs : List V} (h : ∀ X' A' H', TrX X A H X' A' H' → SqT K H' a xs) (r : Rps K (XA X A) H xs ps) : Wk K X A H (Itt K a) ps :=
  ⟨_, _, by rw [← Rps.length r]; exact walk_tup, fun X' A' H1 t => ⟨h X' A' H1 t, fun hx i x H2 hi y => by
    obtain ⟨e, y⟩ := y
    subst e
    obtain ⟨d, e1, r1⟩ := Rps.getV r y
    exact ⟨fun _ _ e => e, d, e1, t.rp r1⟩⟩⟩
theorem ei_list {tl : TE} (h : EV K tl Γ M fun M' d => ∃ ps, d = .v (.lst ps) ∧ Φ M' ps) : EI K (iList K tl) Γ M Φ := fun X A σ H s R q =>
  h X A σ H s _ fun A' M' v d H' t s' r ⟨ps, e, f⟩ => by
    subst e
    obtain ⟨a, xs, e, hq, rs⟩ := sqL_of r.toRp
    subst e
    exact ⟨a, rfl, ⟨xs, hq X A' H' .refl⟩, q A' M' ps _ H' t s' (wk_list hq rs) f⟩
theorem ei_tup {tl : TE} (h : EV K tl Γ M fun M' d => ∃ ps, d = .v (.tup ps) ∧ Φ M' ps) : EI K (iTup K tl) Γ M Φ := fun X A σ H s R q =>
  h X A σ H s _ fun A' M' v d H' t s' r ⟨ps, e, f⟩ => by
    subst e
    obtain ⟨a, xs, e, hq, rs⟩ := sqT_of r.toRp
    subst e
    exact ⟨a, rfl, ⟨xs, hq X A' H' .refl⟩, q A' M' ps _ H' t s' (wk_tup hq rs) f⟩
/-- lo, lo + 1, .. -/
def rangeP (lo : Int) (n : Nat) : List P := (List.range n).map fun i => .int (lo + (i : Nat))
theorem rangeP_get {lo : Int} {n i : Nat} (h : i < n) : (rangeP lo n)[i]? = some (.int (lo + (i : Nat))) := by
  unfold rangeP
  rw [List.getElem?_map, List.getElem?_range h]
  rfl
theorem rangeP_len {lo : Int} {n : Nat} : (rangeP lo n).length = n := by
  unfold rangeP
  rw [List.length_map, List.length_range]
theorem wk_range {X : Addr → Prop} {A : List Addr} {H : Hp} {lo : Int} {n : Nat} : Wk K X A H (Itr lo n) (rangeP lo n) :=
  ⟨_, _, by rw [rangeP_len]; exact walk_range, fun X' A' H1 t => ⟨trivial, fun hx i x H2 hi y => by
    obtain ⟨e, y⟩ := y
    subst e y
    rw [rangeP_len] at hi
    exact ⟨fun _ _ e => e, _, rangeP_get hi, .int _⟩⟩⟩
theorem ei_range1 {ta : TA} (h : EA K ta Γ M fun M' ds => ∃ j : Int, ds = [.v (.int j)] ∧ -(2 ^ 62) ≤ j ∧ j < 2 ^ 62 ∧ Φ M' (rangeP 0 j.toNat)) : EI K (iRng1 ta) Γ M Φ := fun X A σ H s R q =>
  h X A σ H s _ fun A' M' vs ds H' t s' r ⟨j, e, b1, b2, f⟩ => by
    subst e
    cases r with
    | cons r1 r2 =>
      cases r2
      cases r1 with
      | v r1 =>
        cases r1
        exact ⟨j, rfl, b1, b2, q A' M' _ _ H' t s' wk_range f⟩
theorem ei_range2 {ta : TA} (h : EA K ta Γ M fun M' ds => ∃ i j : Int, ds = [.v (.int i), .v (.int j)] ∧ (-(2 ^ 62) ≤ i ∧ i < 2 ^ 62 ∧ -(2 ^ 62) ≤ j ∧ j < 2 ^ 62) ∧ Φ M' (rangeP i (j - i).toNat)) : EI K (iRng2 ta) Γ M Φ := fun X A σ H s R q =>
  h X A σ H s _ fun A' M' vs ds H' t s' r ⟨i, j, e, b, f⟩ => by
    subst e
    cases r with
    | cons r1 r2 =>
      cases r2 with
      | cons r2 r3 =>
        cases r3
        cases r1 with
        | v r1 =>
          cases r2 with
          | v r2 =>
            cases r1
            cases r2
            exact ⟨i, j, rfl, b, q A' M' _ _ H' t s' wk_range f⟩
end

/-! ### for, while -/
/-- up to other words for slots and cells -/
def NI (K : PySem.W.Frag) (n : Nat) (I : Env → Mem → Prop) : Env → Mem → Prop := fun Γ M => ∃ Γ' M', Nrm K n Γ M Γ' M' ∧ I Γ' M'
section
variable {K : PySem.W.Frag} {n : Nat} {wi : TI} {g : TG} {tb : TS} {tt : TT} {Γ : Env} {M : Mem} {E : DE} {I : Env → Mem → Prop}
theorem ni_refl (h : I Γ M) : NI K n I Γ M := ⟨Γ, M, .refl, h⟩
theorem sv_for (hi : EI K wi Γ M fun M0 items => ∃ I : Nat → Env → Mem → Prop, I 0 Γ M0 ∧ (∀ i p Γ1 M1, items[i]? = some p → I i Γ1 M1 → GV K g p Γ1 M1 fun Γ2 =>
      SV K M0.length tb Γ2 M1 { nx := NI K M0.length (I (i + 1)), ct := NI K M0.length (I (i + 1)), bk := E.nx, rt := E.rt }) ∧ ∀ Γ1 M1, I items.length Γ1 M1 → E.nx Γ1 M1) : SV K n (tFor wi g tb) Γ M E := fun X A0 H0 l A σ H Dd tr s z =>
  hi X A σ H s _ fun A1 M1 items J H1 t1 s1 wk ⟨I, h0, turn, done⟩ => by
    obtain ⟨G, Y, w, hw⟩ := wk
    refine for_it w (fun i σ' H' => ∃ A' M' Γ', Tr A1 H1 A' H' ∧ St K X A' M' Γ' σ' H' ∧ I i Γ' M') ⟨A1, M1, Γ, .refl, s1, h0⟩ (fun i σ' H' _ ⟨A', M', Γ', t', s', _⟩ => (hw X A' H' t'.x).1) ?_ ?_
    · rintro i x σ' H' H2 hlt ⟨A', M', Γ', t', s', hI⟩ y
      obtain ⟨sm, p, ep, rp⟩ := (hw X A' H' t'.x).2 s'.ce.xa i x H2 hlt y
      have s2 := s'.same sm
      have t2 : Tr A1 H1 A' H2 := t'.trans (.ofSame sm)
      refine turn i p Γ' M' ep hI X A' σ' H2 x s2 rp _ fun Γ2 σ2 s3 sv => ?_
      refine sv X A1 H1 s1.ce.len A' σ2 H2 _ t2 s3 ⟨fun A3 M3 Γ3 σ3 H3 t3 s3 e => ?_, fun A3 M3 Γ3 σ3 H3 v d t3 s3 r e => z.rt A3 M3 Γ3 σ3 H3 v d ((tr.trans t1).trans t3) s3 r e, fun A3 M3 Γ3 σ3 H3 t3 s3 e => z.nx A3 M3 Γ3 σ3 H3 ((tr.trans t1).trans t3) s3 e, fun A3 M3 Γ3 σ3 H3 t3 s3 e => ?_⟩
      all_goals
        obtain ⟨Γ4, M4, nm, hI4⟩ := e
        obtain ⟨A4, t4, s4⟩ := nm X A1 A3 H1 H3 σ3 s1.ce.len t3 s3
        exact ⟨A4, M4, Γ4, t4, s4, hI4⟩
    · rintro σ' H' ⟨A', M', Γ', t', s', hI⟩
      exact z.nx A' M' Γ' σ' H' ((tr.trans t1).trans t') s' (done Γ' M' hI)
theorem sv_while (I : Nat → Env → Mem → Prop) (m0 : Nat) (h0 : I m0 Γ M) (turn : ∀ m Γ1 M1, I m Γ1 M1 → ET K tt Γ1 M1 fun M2 b => if b = true then
      SV K M.length tb Γ1 M2 { nx := NI K M.length fun Γ' M' => ∃ m', m' < m ∧ I m' Γ' M', ct := NI K M.length fun Γ' M' => ∃ m', m' < m ∧ I m' Γ' M', bk := E.nx, rt := E.rt } else E.nx Γ1 M2) : SV K n (tWhile tt tb) Γ M E := fun X A0 H0 l A σ H Dd tr s z => by
  refine ⟨fun m σ' H' => ∃ A' M' Γ', Tr A H A' H' ∧ St K X A' M' Γ' σ' H' ∧ I m Γ' M', ⟨m0, A, M, Γ, .refl, s, h0⟩, ?_⟩
  rintro m σ' H' ⟨A', M', Γ', t', s', hI⟩
  refine turn m Γ' M' hI X A' σ' H' s' _ fun A2 M2 b H2 t2 s2 f => ?_
  have t3 : Tr A H A2 H2 := t'.trans t2
  cases b with
  | false => exact z.nx A2 M2 Γ' σ' H2 (tr.trans t3) s2 f
  | true =>
    refine ⟨fun σ3 H3 => ∃ m', m' < m ∧ ∃ A' M' Γ', Tr A H A' H3 ∧ St K X A' M' Γ' σ3 H3 ∧ I m' Γ' M', fun σ3 H3 ⟨m', hm, q⟩ => ⟨m', hm, q⟩, ?_⟩
    refine f X A H s.ce.len A2 σ' H2 _ t3 s2 ⟨fun A3 M3 Γ3 σ3 H3 t3 s3 e => ?_, fun A3 M3 Γ3 σ3 H3 v d t3 s3 r e => z.rt A3 M3 Γ3 σ3 H3 v d (tr.trans t3) s3 r e, fun A3 M3 Γ3 σ3 H3 t3 s3 e => z.nx A3 M3 Γ3 σ3 H3 (tr.trans t3) s3 e, fun A3 M3 Γ3 σ3 H3 t3 s3 e => ?_⟩
    all_goals
      obtain ⟨Γ4, M4, nm, m', hm, hI4⟩ := e
      obtain ⟨A4, t4, s4⟩ := nm X A A3 H H3 σ3 s.ce.len t3 s3
      exact ⟨m', hm, A4, M4, Γ4, t4, s4, hI4⟩
end

/-! ### comprehensions -/
def wipeE (Γ : Env) : List Nat → Env
  | [] => Γ
  | v :: vs => (wipeE Γ vs).set v none
theorem wipeE_len (Γ : Env) : ∀ vs, (wipeE Γ vs).length = Γ.length
  | [] => rfl
  | v :: vs => by unfold wipeE; rw [List.length_set, wipeE_len Γ vs]
section
variable {K : PySem.W.Frag} {X : Addr → Prop} {A : List Addr} {H : Hp} {M : Mem} {Γ : Env} {σ : L2.St}
theorem Sl.wipe (s : Sl K X A Γ σ H) : ∀ vs : List Nat, Sl K X A (wipeE Γ vs) (wipe σ vs) H
  | [] => s
  | v :: vs => by
    have ih := Sl.wipe s vs
    refine ⟨by rw [wipeE_len, wipe_length]; exact s.len, fun i d e => ?_⟩
    unfold wipeE at e
    unfold L2.wipe
    by_cases hi : v = i
    · subst hi
      by_cases hl : v < (wipeE Γ vs).length
      · rw [List.getElem?_set_self hl] at e
        cases e
      · rw [List.getElem?_eq_none_iff.mpr (by rw [List.length_set]; omega)] at e
        cases e
    · rw [List.getElem?_set_ne hi] at e ⊢
      exact ih.at_ i d e
theorem wipe_set {σ : L2.St} {j : Nat} {x : Option V} : ∀ {vs : List Nat}, j ∈ vs → wipe (σ.set j x) vs = wipe σ vs
  | v :: vs, h => by
    unfold L2.wipe
    by_cases hv : j ∈ vs
    · rw [wipe_set hv]
    · have hj : j = v := by
        rcases List.mem_cons.mp h with h | h
        · exact h
        · exact absurd h hv
      subst hj
      have aux : ∀ (us : List Nat), j ∉ us → wipe (σ.set j x) us = (wipe σ us).set j x := by
        intro us
        induction us with
        | nil => intro _; rfl
        | cons u us ih =>
          intro hu
          unfold L2.wipe
          rw [ih (fun z => hu (List.mem_cons_of_mem _ z)), List.set_comm _ _ (fun z => hu (by rw [z]; exact List.mem_cons_self ..))]
      rw [aux vs hv, List.set_set]
theorem wipe_wipe {σ : L2.St} : ∀ {vs us : List Nat}, (∀ j ∈ us, j ∈ vs) → wipe (wipe σ us) vs = wipe σ vs
  | vs, [], _ => rfl
  | vs, u :: us, h => by
    show wipe ((wipe σ us).set u none) vs = wipe σ vs
    rw [wipe_set (h u (List.mem_cons_self ..)), wipe_wipe fun j hj => h j (List.mem_cons_of_mem _ hj)]
end
/-- a target that stores into these slots alone -/
structure Tgt (vs : List Nat) (g : TG) : Prop where
  mono : ∀ v σ H (Q Q' : L2.St → Hp → Prop), (∀ σ' H', Q σ' H' → Q' σ' H') → g v σ H Q → g v σ H Q'
  stay : ∀ v σ H Q, g v σ H Q → g v σ H fun σ' H' => wipe σ' vs = wipe σ vs ∧ Q σ' H'
structure Tgts (vs : List Nat) (g : TGs) : Prop where
  mono : ∀ v σ H (Q Q' : L2.St → Hp → Prop), (∀ σ' H', Q σ' H' → Q' σ' H') → g v σ H Q → g v σ H Q'
  stay : ∀ v σ H Q, g v σ H Q → g v σ H fun σ' H' => wipe σ' vs = wipe σ vs ∧ Q σ' H'
theorem tgt_name {vs : List Nat} {i : Nat} (h : i ∈ vs) : Tgt vs (gName i) := ⟨fun _ _ _ _ _ h q => h _ _ q, fun v σ H Q q => ⟨wipe_set h, q⟩⟩
theorem tgts_nil {vs : List Nat} : Tgts vs gNil := ⟨fun v σ H Q Q' h ⟨e, q⟩ => ⟨e, h _ _ q⟩, fun v σ H Q ⟨e, q⟩ => ⟨e, rfl, q⟩⟩
theorem tgts_cons {vs : List Nat} {g : TG} {gs : TGs} (h : Tgt vs g) (hs : Tgts vs gs) : Tgts vs (gCons g gs) := ⟨fun v σ H Q Q' h1 ⟨a, r, e, q⟩ => ⟨a, r, e, h.mono a σ H _ _ (fun σ' H' q => hs.mono r σ' H' _ _ h1 q) q⟩, fun v σ H Q ⟨a, r, e, q⟩ => by
  refine ⟨a, r, e, h.mono a σ H _ _ (fun σ' H' ⟨w, q'⟩ => ?_) (h.stay a σ H _ q)⟩
  have q2 := hs.stay r σ' H' _ q'
  rw [w] at q2
  exact q2⟩
theorem tgt_tup {K : PySem.W.Frag} {vs : List Nat} {n : Nat} {gs : TGs} (h : Tgts vs gs) : Tgt vs (gTup K n gs) := ⟨fun v σ H Q Q' h1 ⟨a, xs, e, hq, l, q⟩ => ⟨a, xs, e, hq, l, h.mono xs σ H _ _ h1 q⟩, fun v σ H Q ⟨a, xs, e, hq, l, q⟩ => ⟨a, xs, e, hq, l, h.stay xs σ H Q q⟩⟩
section
variable {K : PySem.W.Frag} {wi : TI} {g : TG} {tt : TT} {te : TE} {vs : List Nat} {Γ : Env} {M : Mem} {Φ : Mem → List D → Prop} {items : List P}
theorem en_lc (hT : Tgt vs g) (hi : EI K wi Γ M fun M0 items => ∃ I : Nat → Mem → List P → Prop, I 0 M0 [] ∧ (∀ i p M1 acc, items[i]? = some p → I i M1 acc → acc.length < 100000 ∧ GV K g p (wipeE Γ vs) M1 fun Γ2 =>
      ET K tt Γ2 M1 fun M2 b => if b = true then EV K te Γ2 M2 fun M3 d => ∃ q, d = .v q ∧ I (i + 1) M3 (acc ++ [q]) else I (i + 1) M2 acc) ∧ ∀ M1 acc, I items.length M1 acc → Φ M1 (acc.map .v)) : EN K (tLc wi g tt te vs) Γ M Φ := fun X A σ H s Q q =>
  hi X A σ H s _ fun A0 M0 items J H1 t1 s1 wk ⟨I, h0, turn, done⟩ Dp hD => by
    obtain ⟨G, Y, w, hw⟩ := wk
    have hx : ¬ X Dp := fun z => by
      obtain ⟨o, e⟩ := s1.ce.xs Dp z
      rw [hD] at e
      cases e
    refine lc_it w (fun i H2 => ∃ A2 M2 acc xs, Tr A0 H1 A2 H2 ∧ St K (X1 X Dp) A2 M2 Γ σ H2 ∧ H2 Dp = some (.lst xs) ∧ Rps K (XA (X1 X Dp) A2) H2 xs acc ∧ I i M2 acc)
      ⟨A0, M0, [], [], Tr.ofSame (same_new hD), s1.fresh hD, upd_same, .nil, h0⟩ (fun i H2 _ ⟨A2, M2, acc, xs, t2, s2, _⟩ => (hw (X1 X Dp) A2 H2 (t2.x.more hD)).1) ?_ ?_
    · rintro i x H2 H2' hlt ⟨A2, M2, acc, xs, t2, s2, e2, r2, hI⟩ y
      obtain ⟨sm, p, ep, rp⟩ := (hw (X1 X Dp) A2 H2 (t2.x.more hD)).2 s2.ce.xa i x H2' hlt y
      have s3 := s2.same sm
      have t3 : Tr A0 H1 A2 H2' := t2.trans (.ofSame sm)
      have e3 := sm _ _ e2
      have r3 := r2.same sm
      obtain ⟨hlen, gv⟩ := turn i p M2 acc ep hI
      refine hT.mono _ _ _ _ _ (fun σ2 H5 q5 => ?_) (hT.stay _ _ _ _ (gv (X1 X Dp) A2 (wipe σ vs) H2' x ⟨s3.ce, s3.sl.wipe vs⟩ rp (fun σ2 H5 => H5 = H2' ∧ ∃ Γ2, St K (X1 X Dp) A2 M2 Γ2 σ2 H2' ∧ ET K tt Γ2 M2 fun M2 b => if b = true then EV K te Γ2 M2 fun M3 d => ∃ q, d = .v q ∧ I (i + 1) M3 (acc ++ [q]) else I (i + 1) M2 acc) fun Γ2 σ2 s4 et => ⟨rfl, Γ2, s4, et⟩))
      obtain ⟨w2, e5, Γ2, s4, et⟩ := q5
      subst e5
      refine ⟨w2.trans (wipe_wipe fun _ h => h), ?_⟩
      refine et (X1 X Dp) A2 σ2 _ s4 _ fun A3 M3 b H3 t4 s5 f => ?_
      have dp3 : H3 Dp = some (.lst xs) := t4.keep Dp _ e3 (s3.ce.dj Dp (.inr rfl))
      cases b with
      | false => exact ⟨A3, M3, acc, xs, t3.trans t4, s3.tr t4 s5.ce, dp3, t4.x.rps r3, f⟩
      | true =>
        refine f (X1 X Dp) A3 σ2 H3 s5 _ fun A4 M4 y d H4 t5 s6 r6 ⟨q, ed, hI2⟩ => ?_
        subst ed
        have dp4 : H4 Dp = some (.lst xs) := t5.keep Dp _ dp3 (s5.ce.dj Dp (.inr rfl))
        have r7 := t5.x.rps (t4.x.rps r3)
        have s7 := (s3.tr t4 s5.ce).tr t5 s6.ce
        refine ⟨xs, dp4, by rw [Rps.length r3]; exact Nat.lt_of_lt_of_le hlen (by decide), A4, M4, acc ++ [q], xs ++ [y], ((t3.trans t4).trans t5).updF hD, s7.updX (.inr rfl), upd_same, ?_, hI2⟩
        have tx : TrX (X1 X Dp) A4 H4 (X1 X Dp) A4 (upd H4 Dp (.lst (xs ++ [y]))) := ⟨fun a u e n => by
          rw [upd_ne (show a ≠ Dp from fun z => n (.inl (.inr z)))]
          exact e, fun _ _ _ n => n⟩
        exact tx.rps (Rps.append r7 (.cons r6.toRp .nil))
    · rintro H2 ⟨A2, M2, acc, xs, t2, s2, e2, r2, hI⟩
      exact q A2 M2 Dp xs _ H2 (t1.trans t2) (by
        cases e : H Dp with
        | none => rfl
        | some o =>
          obtain ⟨u, q⟩ := t1.stay Dp o e
          rw [hD] at q
          cases q) s2 e2 (.ofRps r2) (done M2 acc hI)
end
end Z
set_option maxRecDepth 100000
set_option maxHeartbeats 4000000
/-! The calculus: comprehensions of data, cells read and written, promises of defs, operators. -/
namespace Z
open PySem PySem.Spec PyProof.Rows L2

/-! ### comprehensions of data -/
section
variable {K : PySem.W.Frag} {wi : TI} {g : TG} {tt : TT} {te : TE} {vs : List Nat} {Γ : Env} {M : Mem} {items : List P}
theorem take_filter_map {α β : Type} {l : List α} {i : Nat} {p : α} (f : α → Bool) (v : α → β) (h : l[i]? = some p) : ((l.take (i + 1)).filter f).map v = ((l.take i).filter f).map v ++ (if f p = true then [v p] else []) := by
  rw [List.take_add_one, h, List.filter_append, List.map_append]
  show _ ++ List.map v (List.filter f [p]) = _
  by_cases hf : f p = true
  · rw [List.filter_cons, if_pos hf, if_pos hf]
    rfl
  · rw [List.filter_cons, if_neg hf, if_neg hf]
    rfl
theorem en_lcm (hT : Tgt vs g) (hi : EIp K wi Γ M items) (hl : items.length ≤ 99999) (f : P → Bool) (v : P → P)
    (h : ∀ (i : Nat) (p : P), items[i]? = some p → GV K g p (wipeE Γ vs) M fun Γ2 => EB K tt Γ2 M (f p) ∧ (f p = true → EP K te Γ2 M (v p))) : EN K (tLc wi g tt te vs) Γ M fun M' ds => M' = M ∧ ds = ((items.filter f).map v).map .v := by
  refine en_lc hT (fun X A σ H s R q => hi X A σ H s R fun A' M' its J H' t s' wk ⟨e1, e2⟩ => q A' M' its J H' t s' wk ?_)
  subst e1 e2
  refine ⟨fun i M1 acc => M1 = M' ∧ acc = ((its.take i).filter f).map v, ⟨rfl, by simp⟩, fun i p M1 acc ep ⟨e1, e2⟩ => ⟨?_, ?_⟩, fun M1 acc ⟨e1, e2⟩ => ⟨e1, by rw [e2, List.take_length]⟩⟩
  · subst e2
    rw [List.length_map]
    have h1 := List.length_filter_le f (its.take i)
    rw [List.length_take] at h1
    omega
  · subst e1
    intro X A σ H v2 s r Q q
    refine h i p ep X A σ H v2 s r Q fun Γ' σ' s' ⟨hb, hv⟩ => q Γ' σ' s' (et_eb hb ?_)
    have e3 := take_filter_map f v ep
    by_cases hf : f p = true
    · rw [if_pos hf] at e3 ⊢
      exact ev_ep (hv hf) ⟨_, rfl, rfl, by rw [e3, e2]⟩
    · rw [if_neg hf] at e3 ⊢
      exact ⟨rfl, by rw [e3, e2, List.append_nil]⟩
theorem ep_lcm (hT : Tgt vs g) (hi : EIp K wi Γ M items) (hl : items.length ≤ 99999) (f : P → Bool) (v : P → P)
    (h : ∀ (i : Nat) (p : P), items[i]? = some p → GV K g p (wipeE Γ vs) M fun Γ2 => EB K tt Γ2 M (f p) ∧ (f p = true → EP K te Γ2 M (v p))) : EP K (tLc wi g tt te vs) Γ M (.lst ((items.filter f).map v)) :=
  ev_new ((en_lcm hT hi hl f v h).imp fun M' ds ⟨e1, e2⟩ => ⟨_, e2, e1, rfl⟩)
theorem eb_yes : EB K tYes Γ M true := fun X A σ H s Q q => q A M true H .refl s ⟨rfl, rfl⟩
theorem ep_lcy (hT : Tgt vs g) (hi : EIp K wi Γ M items) (hl : items.length ≤ 99999) (v : P → P)
    (h : ∀ (i : Nat) (p : P), items[i]? = some p → GV K g p (wipeE Γ vs) M fun Γ2 => EP K te Γ2 M (v p)) : EP K (tLc wi g tYes te vs) Γ M (.lst (items.map v)) := by
  have e := ep_lcm (tt := tYes) hT hi hl (fun _ => true) v fun i p ep X A σ H v2 s r Q q => h i p ep X A σ H v2 s r Q fun Γ' σ' s' hv => q Γ' σ' s' ⟨eb_yes, fun _ => hv⟩
  rwa [List.filter_eq_self.mpr (fun _ _ => rfl)] at e
theorem en_lcy (hT : Tgt vs g) (hi : EIp K wi Γ M items) (hl : items.length ≤ 99999) (v : P → P)
    (h : ∀ (i : Nat) (p : P), items[i]? = some p → GV K g p (wipeE Γ vs) M fun Γ2 => EP K te Γ2 M (v p)) : EN K (tLc wi g tYes te vs) Γ M fun M' ds => M' = M ∧ ds = (items.map v).map .v := by
  have e := en_lcm (tt := tYes) hT hi hl (fun _ => true) v fun i p ep X A σ H v2 s r Q q => h i p ep X A σ H v2 s r Q fun Γ' σ' s' hv => q Γ' σ' s' ⟨eb_yes, fun _ => hv⟩
  rwa [List.filter_eq_self.mpr (fun _ _ => rfl)] at e
end

/-! ### iterators, for pure sources -/
section
variable {K : PySem.W.Frag} {Γ : Env} {M : Mem} {Φ : Mem → List P → Prop} {ps : List P} {tl : TE} {ta tb : TA}
theorem ei_ip {wi : TI} (h : EIp K wi Γ M ps) (f : Φ M ps) : EI K wi Γ M Φ := fun X A σ H s R q => h X A σ H s R fun A' M' its J H' t s' wk ⟨e1, e2⟩ => by
  subst e1 e2
  exact q A' _ _ J H' t s' wk f
theorem eip_list (h : EP K tl Γ M (.lst ps)) : EIp K (iList K tl) Γ M ps := ei_list (ev_ep h ⟨ps, rfl, rfl, rfl⟩)
theorem eip_tup (h : EP K tl Γ M (.tup ps)) : EIp K (iTup K tl) Γ M ps := ei_tup (ev_ep h ⟨ps, rfl, rfl, rfl⟩)
theorem eip_range1 {j : Int} (h : EPs K ta Γ M [.int j]) (h1 : -1000000 ≤ j) (h2 : j < 1000000) : EIp K (iRng1 ta) Γ M (rangeP 0 j.toNat) := ei_range1 (ea_ep h ⟨j, rfl, by omega, by omega, rfl, rfl⟩)
theorem eip_range2 {i j : Int} (h : EPs K ta Γ M [.int i, .int j]) (h0 : -1000000 ≤ i ∧ i < 1000000) (h1 : -1000000 ≤ j) (h2 : j < 1000000) : EIp K (iRng2 ta) Γ M (rangeP i (j - i).toNat) := ei_range2 (ea_ep h ⟨i, j, rfl, ⟨by omega, by omega, by omega, by omega⟩, rfl, rfl⟩)
end

/-! ### cells -/
/-- a list's method: from ds by the arguments es to ds', giving d -/
def MV (K : PySem.W.Frag) (r : V → List V → Hp → VK → Prop) (ds es ds' : List D) (d : D) : Prop :=
  ∀ (X : Addr → Prop) (A : List Addr) (H : Hp) (l : Addr) (xs vs : List V), H l = some (.lst xs) → RDs K X A H xs ds → RDs K X A H vs es → ∀ Q : VK, (∀ v xs', RDs K X A H xs' ds' → RD K X A H v d → Q v (upd H l (.lst xs'))) → r (.ref l) vs H Q
section
variable {K : PySem.W.Frag} {n : Nat} {Γ : Env} {M : Mem} {Φ : Mem → D → Prop} {E : DE} {ta tb te : TE} {tar : TA} {p : P}
theorem St.cellL {X : Addr → Prop} {A : List Addr} {σ : L2.St} {H : Hp} {a : Addr} {k : Nat} {ds : List D} (s : St K X A M Γ σ H) (ek : A[k]? = some a) (em : M[k]? = some (.l ds)) : ∃ xs, H a = some (.lst xs) ∧ RDs K X A H xs ds := s.ce.at_ k a _ ek em
theorem ev_bm {r : V → List V → Hp → VK → Prop} (h : EV K ta Γ M fun M1 d => ∃ k ds1, d = .c k ∧ M1[k]? = some (.l ds1) ∧ EA K tar Γ M1 fun M2 es => ∃ ds ds' d, M2[k]? = some (.l ds) ∧ MV K r ds es ds' d ∧ Φ (M2.set k (.l ds')) d) :
    EV K (tBM K "list" r ta tar) Γ M Φ := fun X A σ H s Q q =>
  h X A σ H s _ fun A1 M1 v1 d1 H1 t1 s1 r1 ⟨k, ds1, e1, em1, h2⟩ => by
    subst e1
    cases r1 with
    | c ek =>
      rename_i a
      obtain ⟨xs1, hx1, _⟩ := s1.cellL ek em1
      refine ⟨.inl ⟨rfl, xs1, .inl (.inl hx1)⟩, h2 X A1 σ H1 s1 _ fun A2 M2 vs es H2 t2 s2 r2 ⟨ds, ds', d, em, mv, f⟩ => ?_⟩
      have ek2 : A2[k]? = some a := by
        obtain ⟨B, q, _⟩ := t2.ext
        rw [q, List.getElem?_append_left (List.getElem?_eq_some_iff.mp ek).1]
        exact ek
      obtain ⟨xs, hx, rx⟩ := s2.cellL ek2 em
      refine mv X A2 H2 a xs vs hx rx r2 Q fun v xs' rx' rv => ?_
      have tp : Tr A2 H2 A2 (upd H2 a (.lst xs')) := ⟨⟨[], by simp, by simp⟩, fun b u q n => by
        rw [upd_ne (show b ≠ a from fun z => n (by rw [z]; exact List.mem_of_getElem? ek2))]
        exact q, fun b u q => by
        by_cases h : b = a
        · rw [h]; exact ⟨_, upd_same⟩
        · rw [upd_ne h]; exact ⟨u, q⟩⟩
      obtain ⟨t3, s3⟩ := s2.put (c := .l ds') ek2 ⟨xs', upd_same, tp.rds rx'⟩
      exact q A2 _ v d _ ((t1.trans t2).trans t3) s3 (t3.rd rv) f
theorem ev_bm0 {r : V → List V → Hp → VK → Prop} (h : EV K ta Γ M fun M2 d => ∃ k ds ds' d', d = .c k ∧ M2[k]? = some (.l ds) ∧ MV K r ds [] ds' d' ∧ Φ (M2.set k (.l ds')) d') :
    EV K (tBM0 K "list" r ta) Γ M Φ := fun X A σ H s Q q =>
  h X A σ H s _ fun A2 M2 v1 d1 H2 t1 s2 r1 ⟨k, ds, ds', d, e1, em, mv, f⟩ => by
    subst e1
    cases r1 with
    | c ek2 =>
      rename_i a
      obtain ⟨xs, hx, rx⟩ := s2.cellL ek2 em
      refine ⟨.inl ⟨rfl, xs, .inl (.inl hx)⟩, mv X A2 H2 a xs [] hx rx .nil Q fun v xs' rx' rv => ?_⟩
      have tp : Tr A2 H2 A2 (upd H2 a (.lst xs')) := ⟨⟨[], by simp, by simp⟩, fun b u q n => by
        rw [upd_ne (show b ≠ a from fun z => n (by rw [z]; exact List.mem_of_getElem? ek2))]
        exact q, fun b u q => by
        by_cases h : b = a
        · rw [h]; exact ⟨_, upd_same⟩
        · rw [upd_ne h]; exact ⟨u, q⟩⟩
      obtain ⟨t3, s3⟩ := s2.put (c := .l ds') ek2 ⟨xs', upd_same, tp.rds rx'⟩
      exact q A2 _ v d _ (t1.trans t3) s3 (t3.rd rv) f
theorem mv_append {ds : List D} {e : D} (hl : ds.length < 100000) : MV K rAppend ds [e] (ds ++ [e]) (.v .non) := fun X A H l xs vs hx rx rv Q q => by
  cases rv with
  | cons r1 r2 =>
    cases r2
    exact ⟨l, xs, _, rfl, rfl, hx, by rw [rx.length]; exact Nat.lt_of_lt_of_le hl (by decide), q _ _ (rx.append (.cons r1 .nil)) (.v .non)⟩
theorem mv_popAt {ds : List D} {i : Nat} {e : D} (he : ds[i]? = some e) (hs : ds.length < 100000) : MV K rPopAt ds [.v (.int (i : Int))] (ds.eraseIdx i) e := fun X A H l xs vs hx rx rv Q q => by
  cases rv with
  | cons r1 r2 =>
    cases r2
    cases r1 with
    | v r1 =>
      cases r1
      obtain ⟨y, ey, ry⟩ := rx.get he
      have hi : i < xs.length := (List.getElem?_eq_some_iff.mp ey).1
      have hl : xs.length < 100000 := by rw [rx.length]; exact hs
      refine ⟨l, xs, (i : Int), i, y, rfl, rfl, hx, by omega, by omega, ?_, ey, q _ _ (rx.erase i) ry⟩
      have h := (ixN_seq (n := xs.length) (i := (i : Int)) (j := i) (by unfold ixN; rw [if_pos (by omega), if_pos (by omega)]; simp)).1
      exact h
theorem mv_insert {ds : List D} {i : Nat} {e : D} (hi : i < 100000) (hl : ds.length < 100000) : MV K (fun x vs H Q => ∃ (l : Addr) (xs : List V) (i : Int) (y : V), x = .ref l ∧ vs = [.int i, y] ∧ H l = some (.lst xs) ∧ xs.length < sizeLine ∧ 0 ≤ i ∧ i < 2 ^ 63 ∧ Q .non (upd H l (.lst (xs.take i.toNat ++ [y] ++ xs.drop i.toNat)))) ds [.v (.int (i : Int)), e] (ds.take i ++ e :: ds.drop i) (.v .non) := fun X A H l xs vs hx rx rv Q q => by
  cases rv with
  | cons r1 r2 =>
    cases r2 with
    | cons r2 r3 =>
      cases r3
      cases r1 with
      | v r1 =>
        cases r1
        refine ⟨l, xs, (i : Int), _, rfl, rfl, hx, by rw [rx.length]; exact Nat.lt_of_lt_of_le hl (by decide), by omega, by omega, ?_⟩
        rw [Int.toNat_natCast, List.append_assoc]
        exact q _ _ (rx.insert r2 i) (.v .non)
theorem mv_extend {ds : List D} {ps : List P} (hl : ds.length + ps.length ≤ 100000) : MV K rExtend ds [.v (.lst ps)] (ds ++ ps.map .v) (.v .non) := fun X A H l xs vs hx rx rv Q q => by
  cases rv with
  | cons r1 r2 =>
    cases r2
    obtain ⟨b, zs, e, hb, nb, rz⟩ := r1.toRp.lstOf
    subst e
    refine ⟨l, b, xs, zs, rfl, rfl, hx, hb, by rw [rx.length, Rps.length rz]; exact Nat.le_trans hl (by decide), q _ _ (rx.append (.ofRps rz)) (.v .non)⟩
theorem dropLast_erase {α : Type} (xs : List α) : xs.dropLast = xs.eraseIdx (xs.length - 1) := by
  rw [List.dropLast_eq_take, List.eraseIdx_eq_take_drop_succ]
  by_cases h0 : xs = []
  · subst h0
    rfl
  · have h1 : xs.length ≠ 0 := fun z => h0 (List.length_eq_zero_iff.mp z)
    rw [show xs.length - 1 + 1 = xs.length by omega, List.drop_length, List.append_nil]
/-- .. by a cell's items -/
theorem mv_pop {ds : List D} {e : D} (he : ds[ds.length - 1]? = some e) : MV K rPop ds [] ds.dropLast e := fun X A H l xs vs hx rx rv Q q => by
  cases rv
  obtain ⟨y, ey, ry⟩ := rx.get he
  refine ⟨l, xs, y, rfl, rfl, hx, by rw [rx.length]; exact ey, q _ _ ?_ ry⟩
  have h := dropLast_erase xs
  have h2 := dropLast_erase ds
  rw [h, h2, rx.length]
  exact rx.erase _
/-- items by place -/
theorem atI_len {α β : Type} {xs : List α} {ys : List β} {i : Int} {y : β} (hl : xs.length = ys.length) (h : atI ys i = some y) : ∃ j : Nat, ixN ys.length i = some j ∧ ys[j]? = some y ∧ ∀ x, xs[j]? = some x → atI xs i = some x := by
  unfold atI at h ⊢
  cases e : ixN ys.length i with
  | none => rw [e] at h; cases h
  | some j =>
    rw [e] at h
    refine ⟨j, rfl, h, fun x hx => ?_⟩
    rw [hl, e]
    exact hx
theorem ev_ixC {ix : R2} (hix : ix = rIx K ∨ ix = rIxL K) (h : EV K ta Γ M fun M1 d => ∃ k, d = .c k ∧ EV K tb Γ M1 fun M2 e => ∃ i ds d, e = .v (.int i) ∧ M2[k]? = some (.l ds) ∧ atI ds i = some d ∧ Φ M2 d) : EV K (tOp ix ta tb) Γ M Φ := fun X A σ H s Q q =>
  h X A σ H s _ fun A1 M1 v1 d1 H1 t1 s1 r1 ⟨k, e1, h2⟩ => by
    subst e1
    cases r1 with
    | c ek =>
      rename_i a
      refine h2 X A1 σ H1 s1 _ fun A2 M2 v2 d2 H2 t2 s2 r2 ⟨i, ds, d, e2, em, hi, f⟩ => ?_
      subst e2
      have ek2 : A2[k]? = some a := by
        obtain ⟨B, q, _⟩ := t2.ext
        rw [q, List.getElem?_append_left (List.getElem?_eq_some_iff.mp ek).1]
        exact ek
      obtain ⟨xs, hx, rx⟩ := s2.cellL ek2 em
      obtain ⟨j, _, ej, hj⟩ := atI_len rx.length hi
      obtain ⟨y, ey, ry⟩ := rx.get ej
      have fin : rIxL K (.ref a) v2 H2 Q := by
        cases r2 with
        | v r2 =>
          cases r2
          exact ⟨a, xs, i, y, rfl, rfl, .inl (.inl hx), hj y ey, q A2 M2 y d H2 (t1.trans t2) s2 ry f⟩
      rcases hix with h | h
      · subst h; exact .inl fin
      · subst h; exact fin
/-- xs[i] = e -/
theorem sv_setitem (h : EV K te Γ M fun M1 e => EV K ta Γ M1 fun M2 d => ∃ k, d = .c k ∧ EV K tb Γ M2 fun M3 i => ∃ (j : Int) (m : Nat) (ds : List D), i = .v (.int j) ∧ M3[k]? = some (.l ds) ∧ ixN ds.length j = some m ∧ E.nx Γ (M3.set k (.l (ds.set m e)))) : SV K n (tAsg te (gSub ta tb rSetL)) Γ M E := fun X A0 H0 l A σ H Dd tr s z =>
  h X A σ H s _ fun A1 M1 v1 d1 H1 t1 s1 r1 h2 => h2 X A1 σ H1 s1 _ fun A2 M2 v2 d2 H2 t2 s2 r2 ⟨k, e2, h3⟩ => by
    subst e2
    cases r2 with
    | c ek =>
      rename_i a
      refine h3 X A2 σ H2 s2 _ fun A3 M3 v3 d3 H3 t3 s3 r3 ⟨j, m, ds, e3, em, hm, f⟩ => ?_
      subst e3
      have ek3 : A3[k]? = some a := by
        obtain ⟨B, q, _⟩ := t3.ext
        rw [q, List.getElem?_append_left (List.getElem?_eq_some_iff.mp ek).1]
        exact ek
      obtain ⟨xs, hx, rx⟩ := s3.cellL ek3 em
      cases r3 with
      | v r3 =>
        cases r3
        have rv := t3.rd (t2.rd r1)
        have tp : Tr A3 H3 A3 (upd H3 a (.lst (xs.set m v1))) := ⟨⟨[], by simp, by simp⟩, fun b u q n => by
          rw [upd_ne (show b ≠ a from fun z => n (by rw [z]; exact List.mem_of_getElem? ek3))]
          exact q, fun b u q => by
          by_cases h : b = a
          · rw [h]; exact ⟨_, upd_same⟩
          · rw [upd_ne h]; exact ⟨u, q⟩⟩
        obtain ⟨t4, s4⟩ := s3.put (c := .l (ds.set m d1)) ek3 ⟨xs.set m v1, upd_same, tp.rds (rx.set rv m)⟩
        exact ⟨a, xs, j, m, rfl, rfl, hx, by rw [rx.length]; exact hm, z.nx A3 _ Γ σ _ ((((tr.trans t1).trans t2).trans t3).trans t4) s4 f⟩
theorem sv_par {i j : Nat} {ta : TA} (h : EA K ta Γ M fun M' ds => ∃ d e, ds = [d, e] ∧ E.nx ((Γ.set i (some d)).set j (some e)) M') : SV K n (tPar i j ta) Γ M E := fun X A0 H0 l A σ H Dd tr s z =>
  h X A σ H s _ fun A1 M1 vs ds H1 t1 s1 r ⟨d, e, ed, f⟩ => by
    subst ed
    cases r with
    | cons r1 r2 =>
      cases r2 with
      | cons r2 r3 =>
        cases r3
        exact ⟨_, _, rfl, z.nx A1 M1 _ _ H1 (tr.trans t1) ⟨s1.ce, (s1.sl.set i r1).set j r2⟩ f⟩
/-- target = e, e data -/
theorem sv_asgG {g : TG} (h : EV K te Γ M fun M' d => ∃ p, d = .v p ∧ GV K g p Γ M' fun Γ' => E.nx Γ' M') : SV K n (tAsg te g) Γ M E := fun X A0 H0 l A σ H Dd tr s z =>
  h X A σ H s _ fun A1 M1 v d H1 t1 s1 r ⟨p, e, gv⟩ => by
    subst e
    exact gv X A1 σ H1 v s1 r.toRp _ fun Γ' σ' s' f => z.nx A1 M1 Γ' σ' H1 (tr.trans t1) s' f
theorem sv_aug {i : Nat} {ti : TIp} {p q z : P} (e : Γ[i]? = some (some (.v p))) (h : EP K te Γ M q) (hr : RV K ti p q z) (f : E.nx (Γ.set i (some (.v z))) M) : SV K n (tAug i te ti) Γ M E := fun X A0 H0 l A σ H Dd tr s zz => by
  obtain ⟨v, e1, r⟩ := s.sl.at_ i _ e
  refine ⟨v, e1, h X A σ H s _ fun A1 M1 y d H1 t1 s1 r1 ⟨e1, e2⟩ => ?_⟩
  subst e1 e2
  exact hr (XA X A1) H1 v y s1.ce.xa (t1.rp r.toRp) r1.toRp _ fun w H' sm rz => zz.nx A1 _ _ _ H' ((tr.trans t1).trans (.ofSame sm)) ⟨(s1.same sm).ce, (s1.same sm).sl.set i (.v rz)⟩ f
end

/-! ### what a def promises -/
/-- data in, data out: every object stands -/
def PF (K : PySem.W.Frag) {α : Type} (args : α → List P) (pre : α → Prop) (res : α → P → Prop) : Sp := fun vs H Q _ =>
  ∃ (X : Addr → Prop) (x : α), (∀ a, X a → ∃ o, H a = some o) ∧ Rps K X H vs (args x) ∧ pre x ∧ ∀ v p H', Same H H' → Rp K X H' v p → res x p → Q v H'
/-- the drawing box -/
def Bx (n : Nat) (c : MC) : Prop := ∃ (a : Int) (g : Bool) (m d : Int), c = .l [.v (.int a), .v (.bl g), .v (.int m), .v (.int d)] ∧ 0 ≤ a ∧ 0 ≤ m ∧ m < 2147483648 ∧ 0 ≤ d ∧ d ≤ (n : Int)
/-- a box, then data; cost: draws made at most -/
def BF (K : PySem.W.Frag) {α : Type} (args : α → List P) (pre : α → Prop) (cost : α → Nat) (res : α → P → Prop) : Sp := fun vs H Q _ =>
  ∃ (X : Addr → Prop) (b : Addr) (c : MC) (n : Nat) (vs' : List V) (x : α), vs = .ref b :: vs' ∧ Cells K X [b] [c] H ∧ Bx n c ∧ n + cost x ≤ 1000000000 ∧ Rps K (XA X [b]) H vs' (args x) ∧ pre x ∧
    ∀ v p c' H', Tr [b] H [b] H' → Cells K X [b] [c'] H' → Rp K (XA X [b]) H' v p → Bx (n + cost x) c' → res x p → Q v H'
def perm {α : Type} (ix : List Nat) (l : List α) : List α := ix.filterMap fun i => l[i]?
theorem Rps.perm {K : PySem.W.Frag} {X : Addr → Prop} {H : Hp} {vs : List V} {ps : List P} (r : Rps K X H vs ps) : ∀ ix : List Nat, Rps K X H (Z.perm ix vs) (Z.perm ix ps)
  | [] => .nil
  | i :: ix => by
    have ih := Rps.perm r ix
    unfold Z.perm at ih ⊢
    cases e : ps[i]? with
    | none =>
      have e2 : vs[i]? = none := List.getElem?_eq_none_iff.mpr (by rw [Rps.length r]; exact List.getElem?_eq_none_iff.mp e)
      rw [List.filterMap_cons, List.filterMap_cons, e, e2]
      exact ih
    | some p =>
      obtain ⟨v, e2, rv⟩ := Rps.get r e
      rw [List.filterMap_cons, List.filterMap_cons, e, e2]
      exact .cons rv ih
theorem Vals.perm {vs : List V} {us : List Value} (r : Vals vs us) : ∀ ix : List Nat, Vals (Z.perm ix vs) (Z.perm ix us)
  | [] => .nil
  | i :: ix => by
    have ih := Vals.perm r ix
    unfold Z.perm at ih ⊢
    cases e : vs[i]? with
    | none =>
      rw [List.filterMap_cons, List.filterMap_cons, e, r.none_of e]
      exact ih
    | some p =>
      obtain ⟨v, e2, rv⟩ := r.get e
      rw [List.filterMap_cons, List.filterMap_cons, e, e2]
      exact .cons rv ih
section
variable {K : PySem.W.Frag} {α : Type} {args : α → List P} {pre : α → Prop} {cost : α → Nat} {res : α → P → Prop} {Γ : Env} {M : Mem} {Φ : Mem → D → Prop} {t tk : TA} {E : XK} {ps qs : List P} {z : P}
theorem ev_call (h : EA K t Γ M fun M1 ds => ∃ x, ds = (args x).map .v ∧ pre x ∧ ∀ p, res x p → Φ M1 (.v p)) : EV K (tCall (PF K args pre res) [] E t) Γ M Φ := fun X A σ H s Q q =>
  h X A σ H s _ fun A1 M1 vs ds H1 t1 s1 r ⟨x, ed, hp, f⟩ => by
    subst ed
    refine ⟨XA X A1, x, s1.ce.xa, by rw [List.append_nil]; exact r.toRps, hp, fun v p H' sm rp hr => ?_⟩
    exact q A1 M1 v (.v p) H' (t1.trans (.ofSame sm)) (s1.same sm) (.v rp) (f p hr)
theorem ep_call (h : EPs K t Γ M ps) (x : α) (ex : ps = args x) (hp : pre x) (hr : ∀ p, res x p → p = z) : EP K (tCall (PF K args pre res) [] E t) Γ M z :=
  ev_call (ea_ep h ⟨x, by rw [ex], hp, fun p q => ⟨rfl, by rw [hr p q]⟩⟩)
/-- cells as arguments, an answer without objects -/
theorem ef_call (h : EFs K t Γ M ps) (x : α) (ex : ps = args x) (hp : pre x) (hr : ∀ p, res x p → p = z) (hf : flat z = true) : EP K (tCall (PF K args pre res) [] E t) Γ M z := fun X A σ H s Q q =>
  h X A σ H s _ fun A1 M1 vs ds H1 t1 s1 r ⟨e1, e2⟩ => by
    subst e1
    refine ⟨X, x, s1.ce.xs, by rw [List.append_nil, ← ex]; exact s1.ce.fzs e2 r, hp, fun v p H' sm rp hr' => ?_⟩
    rw [hr p hr'] at rp
    exact q A1 _ v (.v z) H' (t1.trans (.ofSame sm)) (s1.same sm) (.v (flat_rp hf rp)) ⟨rfl, rfl⟩
theorem ep_callN {n m : Nat} {ix : List Nat} (h : EPs K t Γ M ps) (hk : EPs K tk Γ M qs) (l1 : ps.length = n) (l2 : qs.length = m) (x : α) (ex : perm ix (ps ++ qs) = args x) (hp : pre x) (hr : ∀ p, res x p → p = z) :
    EP K (tCallN n m (PF K args pre res) (fun vs zs => perm ix (vs ++ zs)) E t tk) Γ M z := fun X A σ H s Q q =>
  h X A σ H s _ fun A1 M1 vs ds H1 t1 s1 r ⟨e1, e2⟩ => by
    subst e1 e2
    refine hk X A1 σ H1 s1 _ fun A2 M2 zs es H2 t2 s2 r2 ⟨e1, e2⟩ => ?_
    subst e1 e2
    have r3 := (t2.rds r).toRps
    have r4 := r2.toRps
    refine ⟨by rw [Rps.length r3, l1], by rw [Rps.length r4, l2], XA X A2, x, s2.ce.xa, ?_, hp, fun v p H' sm rp hr' => ?_⟩
    · rw [← ex]
      exact (Rps.append r3 r4).perm ix
    · rw [hr p hr'] at rp
      exact q A2 _ v (.v z) H' ((t1.trans t2).trans (.ofSame sm)) (s2.same sm) (.v rp) ⟨rfl, rfl⟩
/-- the box handed on -/
theorem ev_callB (h : EA K t Γ M fun M1 ds => ∃ k c n x, ds = .c k :: (args x).map .v ∧ M1[k]? = some c ∧ Bx n c ∧ n + cost x ≤ 1000000000 ∧ pre x ∧ ∀ p c', res x p → Bx (n + cost x) c' → Φ (M1.set k c') (.v p)) : EV K (tCall (BF K args pre cost res) [] E t) Γ M Φ := fun X A σ H s Q q =>
  h X A σ H s _ fun A1 M1 vs ds H1 t1 s1 r ⟨k, c, n, x, ed, em, hb, hn, hp, f⟩ => by
    subst ed
    cases r with
    | cons r1 r2 =>
      cases r1 with
      | c ek =>
        rename_i vs' b
        have hbA : b ∈ A1 := List.mem_of_getElem? ek
        obtain ⟨a0, g0, m0, d0, ec, _⟩ := id hb
        -- the callee keeps away from X and the other cells
        have xe : ∀ a, XA (fun a => XA X A1 a ∧ a ≠ b) [b] a ↔ XA X A1 a := fun a => by
          constructor
          · rintro (⟨z, _⟩ | z)
            · exact z
            · rw [List.mem_singleton.mp z]
              exact .inr hbA
          · intro z
            by_cases h : a = b
            · exact .inr (List.mem_singleton.mpr h)
            · exact .inl ⟨z, h⟩
        have cb : Cells K (fun a => XA X A1 a ∧ a ≠ b) [b] [c] H1 := by
          refine ⟨List.nodup_cons.mpr ⟨by simp, List.nodup_nil⟩, rfl, fun j a m e1 e2 => ?_, fun a z => s1.ce.xa a z.1, fun a z h => z.2 (List.mem_singleton.mp h)⟩
          have hj : j = 0 := by
            have := (List.getElem?_eq_some_iff.mp e1).1
            rw [List.length_singleton] at this
            omega
          subst hj
          cases e1
          cases e2
          subst ec
          obtain ⟨xs, hx, rx⟩ := s1.ce.at_ k b _ ek em
          refine ⟨xs, hx, ?_⟩
          cases rx with
          | cons q1 rx => cases rx with
            | cons q2 rx => cases rx with
              | cons q3 rx => cases rx with
                | cons q4 rx =>
                  cases rx
                  exact .cons (.v (flat_rp rfl q1.toRp)) (.cons (.v (flat_rp rfl q2.toRp)) (.cons (.v (flat_rp rfl q3.toRp)) (.cons (.v (flat_rp rfl q4.toRp)) .nil)))
        refine ⟨fun a => XA X A1 a ∧ a ≠ b, b, c, n, vs', x, by rw [List.append_nil], cb, hb, hn, r2.toRps.less fun a z => (xe a).mp z, hp, fun v p c' H' tr cb' rp hb' hr => ?_⟩
        obtain ⟨a1, g1, m1, d1, ec', _⟩ := id hb'
        have rp2 : Rp K (XA X A1) H' v p := rp.less fun a z => (xe a).mpr z
        have t2 : Tr A1 H1 A1 H' := ⟨⟨[], by simp, by simp⟩, fun a o e nn => tr.keep a o e fun z => nn (by rw [List.mem_singleton.mp z]; exact hbA), tr.stay⟩
        have cc : Cells K X A1 (M1.set k c') H' := by
          refine ⟨s1.ce.nd, by rw [List.length_set]; exact s1.ce.len, fun j a m e1 e2 => ?_, fun a z => by
            obtain ⟨o, e⟩ := s1.ce.xs a z
            exact tr.stay a o e, s1.ce.dj⟩
          by_cases hj : k = j
          · subst hj
            have hl : k < M1.length := (List.getElem?_eq_some_iff.mp em).1
            rw [List.getElem?_set_self hl] at e2
            rw [ek] at e1
            cases e1
            cases e2
            subst ec'
            obtain ⟨xs, hx, rx⟩ := cb'.at_ 0 b _ rfl rfl
            refine ⟨xs, hx, ?_⟩
            cases rx with
            | cons q1 rx => cases rx with
              | cons q2 rx => cases rx with
                | cons q3 rx => cases rx with
                  | cons q4 rx =>
                    cases rx
                    exact .cons (.v (flat_rp rfl q1.toRp)) (.cons (.v (flat_rp rfl q2.toRp)) (.cons (.v (flat_rp rfl q3.toRp)) (.cons (.v (flat_rp rfl q4.toRp)) .nil)))
          · rw [List.getElem?_set_ne hj] at e2
            have hb2 : a ≠ b := fun z => hj ((List.getElem?_inj (List.getElem?_eq_some_iff.mp ek).1 s1.ce.nd).mp (ek.trans (by rw [← z]; exact e1.symm)))
            exact (s1.ce.at_ j a m e1 e2).tr t2 fun o e => tr.keep a o e fun z => hb2 (List.mem_singleton.mp z)
        exact q A1 _ v (.v p) H' (t1.trans t2) (s1.tr t2 cc) (.v rp2) (f p c' hr hb')
end

/-! ### a def keeps such a promise, by its body -/
def startE (N : Nat) (ds : List D) : Env := ds.map some ++ List.replicate (N - ds.length) none
theorem sl_start {K : PySem.W.Frag} {X : Addr → Prop} {A : List Addr} {H : Hp} {vs : List V} {ds : List D} {N : List Str} (r : RDs K X A H vs ds) : Sl K X A (startE N.length ds) (L2.start N vs) H := by
  unfold startE L2.start
  refine ⟨by simp [r.length], fun i d e => ?_⟩
  by_cases hi : i < ds.length
  · rw [List.getElem?_append_left (by simpa using hi), List.getElem?_map] at e
    cases e2 : ds[i]? with
    | none => rw [e2] at e; cases e
    | some d' =>
      rw [e2] at e
      cases e
      obtain ⟨v, e3, rv⟩ := r.get e2
      refine ⟨v, ?_, rv⟩
      rw [List.getElem?_append_left (by rw [List.length_map, r.length]; exact hi), List.getElem?_map, e3]
      rfl
  · rw [List.getElem?_append_right (by simpa using hi), List.getElem?_replicate] at e
    split at e <;> cases e
section
variable {K : PySem.W.Frag} {α : Type} {args : α → List P} {pre : α → Prop} {cost : α → Nat} {res : α → P → Prop} {t : TS} {N : List Str}
/-- from the calculus to the reading, for a def over data -/
theorem pf_body {x : α} (h : SV K 0 t (startE N.length ((args x).map .v)) [] { nx := fun _ _ => res x .non, rt := fun M d => ∃ p, Fz 0 M d p ∧ res x p }) {X : Addr → Prop} {vs : List V} {H : Hp} {Q : VK}
    (hx : ∀ a, X a → ∃ o, H a = some o) (r : Rps K X H vs (args x)) (q : ∀ v p H', Same H H' → Rp K X H' v p → res x p → Q v H') : t { nx := fun _ H' => Q .non H', rt := Q } (L2.start N vs) H := by
  have c0 : Cells K X [] [] H := ⟨List.nodup_nil, rfl, fun k a c e _ => by simp at e, hx, fun a _ h => by simp at h⟩
  have r0 : RDs K X [] H vs ((args x).map .v) := .ofRps (r.less fun a z => z.elim id fun z => by simp at z)
  refine h X [] H rfl [] (L2.start N vs) H _ .refl ⟨c0, sl_start r0⟩ ⟨fun A M Γ σ H' t1 s1 e => ?_, fun A M Γ σ H' v d t1 s1 r1 ⟨p, fz, hr⟩ => ?_, fun A M Γ σ H' t1 s1 e => e.elim, fun A M Γ σ H' t1 s1 e => e.elim⟩
  · exact q .non .non H' (fun a o e => t1.keep a o e (by simp)) .non e
  · exact q v p H' (fun a o e => t1.keep a o e (by simp)) (Fz.rp0 s1.ce fz r1) hr
/-- .. for a def over a box and data -/
theorem bf_body {x : α} {n : Nat} {c : MC} (hc : Bx n c) (h : SV K 1 t (startE N.length (.c 0 :: (args x).map .v)) [c] { nx := fun _ M => res x .non ∧ ∃ c' M', M = c' :: M' ∧ Bx (n + cost x) c', rt := fun M d => ∃ p, Fz 1 M d p ∧ res x p ∧ ∃ c' M', M = c' :: M' ∧ Bx (n + cost x) c' }) {X : Addr → Prop} {b : Addr} {vs : List V} {H : Hp} {Q : VK}
    (cb : Cells K X [b] [c] H) (r : Rps K (XA X [b]) H vs (args x)) (q : ∀ v p c' H', Tr [b] H [b] H' → Cells K X [b] [c'] H' → Rp K (XA X [b]) H' v p → Bx (n + cost x) c' → res x p → Q v H') : t { nx := fun _ H' => Q .non H', rt := Q } (L2.start N (.ref b :: vs)) H := by
  have r0 : RDs K X [b] H (.ref b :: vs) (.c 0 :: (args x).map .v) := .cons (.c rfl) (.ofRps r)
  have fin : ∀ {A : List Addr} {M : Mem} {Γ : Env} {σ : L2.St} {H' : Hp} {c' : MC} {M' : Mem}, Tr [b] H A H' → St K X A M Γ σ H' → M = c' :: M' → Bx (n + cost x) c' → Tr [b] H [b] H' ∧ Cells K X [b] [c'] H' ∧ A.take 1 = [b] := fun {A M Γ σ H' c' M'} t1 s1 eM hb => by
    obtain ⟨B, eA, fB⟩ := t1.ext
    subst eA eM
    obtain ⟨a1, g1, m1, d1, ec', _⟩ := id hb
    refine ⟨⟨⟨[], by simp, by simp⟩, t1.keep, t1.stay⟩, ⟨List.nodup_cons.mpr ⟨by simp, List.nodup_nil⟩, rfl, fun j a m e1 e2 => ?_, s1.ce.xs, fun a z h => s1.ce.dj a z (List.mem_append_left _ h)⟩, rfl⟩
    have hj : j = 0 := by
      have := (List.getElem?_eq_some_iff.mp e1).1
      rw [List.length_singleton] at this
      omega
    subst hj
    cases e1
    cases e2
    subst ec'
    obtain ⟨xs, hx, rx⟩ := s1.ce.at_ 0 b _ rfl rfl
    refine ⟨xs, hx, ?_⟩
    cases rx with
    | cons q1 rx => cases rx with
      | cons q2 rx => cases rx with
        | cons q3 rx => cases rx with
          | cons q4 rx =>
            cases rx
            exact .cons (.v (flat_rp rfl q1.toRp)) (.cons (.v (flat_rp rfl q2.toRp)) (.cons (.v (flat_rp rfl q3.toRp)) (.cons (.v (flat_rp rfl q4.toRp)) .nil)))
  refine h X [b] H rfl [b] (L2.start N (.ref b :: vs)) H _ .refl ⟨cb, sl_start r0⟩ ⟨fun A M Γ σ H' t1 s1 ⟨hr, c', M', eM, hb⟩ => ?_, fun A M Γ σ H' v d t1 s1 r1 ⟨p, fz, hr, c', M', eM, hb⟩ => ?_, fun A M Γ σ H' t1 s1 e => e.elim, fun A M Γ σ H' t1 s1 e => e.elim⟩
  · obtain ⟨t2, c2, _⟩ := fin t1 s1 eM hb
    exact q .non .non c' H' t2 c2 .non hb hr
  · obtain ⟨t2, c2, e2⟩ := fin t1 s1 eM hb
    have rp := Fz.rp s1.ce fz r1
    rw [e2] at rp
    exact q v p c' H' t2 c2 rp hb hr
end
end Z
set_option maxRecDepth 100000
set_option maxHeartbeats 4000000
/-! The calculus: operators, built-ins, fields, instances. -/
namespace Z
open PySem PySem.Spec PyProof.Rows L2

/-! ### operators, joined over the kinds -/
abbrev rI0A : R2 := rI0 fun i j => .int (i + j)
abbrev rStrA : R2 := fun x y H Q => ∃ i j, x = .str i ∧ y = .str j ∧ i.length + j.length ≤ sizeLine ∧ Q (.str (i ++ j)) H
def rPlus (K : PySem.W.Frag) : R2 := fun x y H Q => rI0A x y H Q ∨ rCatA K x y H Q ∨ rCat x y H Q ∨ rStrA x y H Q
theorem op_plus {X : Cx} : OpR X (binaryOp .Add) (rPlus X.K) := op_add.or (op_catA.or (op_cat.or op_add_str))
def rEqA (K : PySem.W.Frag) : R2 := fun x y H Q => rEq x y H Q ∨ rEqD K x y H Q
def rNeA (K : PySem.W.Frag) : R2 := fun x y H Q => rNe x y H Q ∨ rNeD K x y H Q
theorem op_eqA {X : Cx} (hu : X.A.units + 64 < cLine) : OpR X (compareOp .Eq) (rEqA X.K) := op_eq.or (op_eqD hu)
theorem op_neA {X : Cx} (hu : X.A.units + 64 < cLine) : OpR X (compareOp .NotEq) (rNeA X.K) := op_ne.or (op_neD hu)
section
variable {K : PySem.W.Frag} {i j : Int} {ps qs : List P} {p q z : P}
theorem rv_ii {f : Int → Int → Int} : RV K (rI0 fun i j => .int (f i j)) (.int i) (.int j) (.int (f i j)) := fun X H x y hx r1 r2 Q k => by
  cases r1; cases r2
  exact ⟨i, j, rfl, rfl, k _ H (Same.refl H) (.int _)⟩
theorem rv_ib {f : Int → Int → Bool} : RV K (rI0 fun i j => .bl (f i j)) (.int i) (.int j) (.bl (f i j)) := fun X H x y hx r1 r2 Q k => by
  cases r1; cases r2
  exact ⟨i, j, rfl, rfl, k _ H (Same.refl H) (.bl _)⟩
theorem rv_ic {C : Int → Int → Prop} {f : Int → Int → Int} (h : C i j) : RV K (rI C fun i j => .int (f i j)) (.int i) (.int j) (.int (f i j)) := fun X H x y hx r1 r2 Q k => by
  cases r1; cases r2
  exact ⟨i, j, rfl, rfl, h, k _ H (Same.refl H) (.int _)⟩
theorem rv_ip {f : Int → Int → Int} : RV K (ipI f) (.int i) (.int j) (.int (f i j)) := fun X H x y hx r1 r2 Q k => by
  cases r1; cases r2
  exact ⟨i, j, rfl, rfl, k _ H (Same.refl H) (.int _)⟩
theorem ru_i {f : Int → Int} : RU K (rU fun i => .int (f i)) (.int i) (.int (f i)) := fun X H x hx r1 Q k => by
  cases r1
  exact ⟨i, rfl, k _ H (Same.refl H) (.int _)⟩
theorem rv_plus_i : RV K (rPlus K) (.int i) (.int j) (.int (i + j)) := fun X H x y hx r1 r2 Q k => by
  cases r1; cases r2
  exact .inl ⟨i, j, rfl, rfl, k _ H (Same.refl H) (.int _)⟩
theorem rv_plus_s {i j : Str} (h : i.length + j.length ≤ sizeLine) : RV K (rPlus K) (.str i) (.str j) (.str (i ++ j)) := fun X H x y hx r1 r2 Q k => by
  cases r1; cases r2
  exact .inr (.inr (.inr ⟨i, j, rfl, rfl, h, k _ H (Same.refl H) (.str _)⟩))
theorem rv_plus_t (h : ps.length + qs.length ≤ sizeLine) : RV K (rPlus K) (.tup ps) (.tup qs) (.tup (ps ++ qs)) := fun X H x y hx r1 r2 Q k => by
  obtain ⟨a, xs, e1, q1, rx⟩ := id r1.tupOf
  obtain ⟨b, ys, e2, q2, ry⟩ := id r2.tupOf
  subst e1 e2
  refine .inr (.inl ⟨a, b, xs, ys, rfl, rfl, q1, q2, by rw [Rps.length rx, Rps.length ry]; exact h, fun e => ?_, fun _ e => ?_, fun _ _ p hp => ?_⟩)
  · have e0 : ps = [] := List.length_eq_zero_iff.mp (by rw [← Rps.length rx, e]; rfl)
    subst e0
    exact k _ H (Same.refl H) r2
  · have e0 : qs = [] := List.length_eq_zero_iff.mp (by rw [← Rps.length ry, e]; rfl)
    subst e0
    rw [List.append_nil] at k
    exact k _ H (Same.refl H) r1
  · exact k _ _ (same_new hp) (Rp.newT hx hp (rx.append ry))
theorem rv_plus_l (h : ps.length + qs.length ≤ sizeLine) : RV K (rPlus K) (.lst ps) (.lst qs) (.lst (ps ++ qs)) := fun X H x y hx r1 r2 Q k => by
  obtain ⟨a, xs, e1, q1, _, rx⟩ := r1.lstOf
  obtain ⟨b, ys, e2, q2, _, ry⟩ := r2.lstOf
  subst e1 e2
  exact .inr (.inr (.inl ⟨a, b, xs, ys, rfl, rfl, q1, q2, by rw [Rps.length rx, Rps.length ry]; exact h, fun p hp => k _ _ (same_new hp) (Rp.newL hx hp (rx.append ry))⟩))
/-! ### == -/
theorem rv_eq_ii : RV K (rEqA K) (.int i) (.int j) (.bl (decide (i = j))) := fun X H x y hx r1 r2 Q k => by
  cases r1; cases r2
  refine .inl ⟨rfl, ?_⟩
  have e : decide (V.int i = V.int j) = decide (i = j) := by by_cases h : i = j <;> simp [h]
  rw [e]
  exact k _ H (Same.refl H) (.bl _)
theorem rv_ne_ii : RV K (rNeA K) (.int i) (.int j) (.bl (!decide (i = j))) := fun X H x y hx r1 r2 Q k => by
  cases r1; cases r2
  refine .inl ⟨rfl, ?_⟩
  have e : decide (V.int i = V.int j) = decide (i = j) := by by_cases h : i = j <;> simp [h]
  rw [e]
  exact k _ H (Same.refl H) (.bl _)
theorem rv_eq_ss {i j : Str} : RV K (rEqA K) (.str i) (.str j) (.bl (decide (i = j))) := fun X H x y hx r1 r2 Q k => by
  cases r1; cases r2
  refine .inl ⟨rfl, ?_⟩
  have e : decide (V.str i = V.str j) = decide (i = j) := by by_cases h : i = j <;> simp [h]
  rw [e]
  exact k _ H (Same.refl H) (.bl _)
theorem rv_ne_ss {i j : Str} : RV K (rNeA K) (.str i) (.str j) (.bl (!decide (i = j))) := fun X H x y hx r1 r2 Q k => by
  cases r1; cases r2
  refine .inl ⟨rfl, ?_⟩
  have e : decide (V.str i = V.str j) = decide (i = j) := by by_cases h : i = j <;> simp [h]
  rw [e]
  exact k _ H (Same.refl H) (.bl _)
theorem rv_eq_bb {i j : Bool} : RV K (rEqA K) (.bl i) (.bl j) (.bl (i == j)) := fun X H x y hx r1 r2 Q k => by
  cases r1; cases r2
  refine .inl ⟨rfl, ?_⟩
  have e : decide (V.bl i = V.bl j) = (i == j) := by cases i <;> cases j <;> rfl
  rw [e]
  exact k _ H (Same.refl H) (.bl _)
theorem rv_ne_bb {i j : Bool} : RV K (rNeA K) (.bl i) (.bl j) (.bl (i != j)) := fun X H x y hx r1 r2 Q k => by
  cases r1; cases r2
  refine .inl ⟨rfl, ?_⟩
  have e : (!decide (V.bl i = V.bl j)) = (i != j) := by cases i <;> cases j <;> rfl
  rw [e]
  exact k _ H (Same.refl H) (.bl _)
theorem rv_eq_ni : RV K (rEqA K) .non (.int j) (.bl false) := fun X H x y hx r1 r2 Q k => by
  cases r1; cases r2
  exact .inl ⟨rfl, k _ H (Same.refl H) (.bl false)⟩
theorem rv_eq_is {s : Str} : RV K (rEqA K) (.int i) (.str s) (.bl false) := fun X H x y hx r1 r2 Q k => by
  cases r1; cases r2
  exact .inl ⟨rfl, k _ H (Same.refl H) (.bl false)⟩
mutual
/-- as the library's data; instances are none -/
def py : P → PyData
  | .non => .none
  | .bl b => .bool b
  | .int i => .int i
  | .str s => .str s
  | .tup ds => .tuple (pys ds)
  | .lst ds => .list (pys ds)
  | .scr ds => .list (pys ds)
  | .ins _ _ _ => .none
  | .dct _ _ => .none
  | .dcT _ _ => .none
def pys : List P → List PyData
  | [] => []
  | d :: ds => py d :: pys ds
end
mutual
/-- data nested at most n deep, no instances -/
def okd : Nat → P → Bool
  | _, .non => true
  | _, .bl _ => true
  | _, .int _ => true
  | _, .str s => PyData.strOk s
  | n + 1, .tup ds => okds n ds
  | n + 1, .lst ds => okds n ds
  | n + 1, .scr ds => okds n ds
  | _, _ => false
def okds : Nat → List P → Bool
  | _, [] => true
  | n, d :: ds => okd n d && okds n ds
end
mutual
theorem okd_shape : ∀ (n : Nat) (p : P), okd n p = true → (py p).canLay0 = true ∧ (py p).depth ≤ n
  | n, .non, _ => by simp [py, PyData.canLay0, PyData.depth]
  | n, .bl _, _ => by simp [py, PyData.canLay0, PyData.depth]
  | n, .int _, _ => by simp [py, PyData.canLay0, PyData.depth]
  | n, .str s, h => by
    have h2 : PyData.strOk s = true := by cases n <;> exact h
    simp [py, PyData.canLay0, PyData.depth, h2]
  | 0, .tup _, h => by cases h
  | 0, .lst _, h => by cases h
  | 0, .scr _, h => by cases h
  | n + 1, .tup ds, h => by
    obtain ⟨h1, h2⟩ := okds_shape n ds h
    exact ⟨by simp [py, PyData.canLay0, h1], by simp [py, PyData.depth]; exact h2⟩
  | n + 1, .lst ds, h => by
    obtain ⟨h1, h2⟩ := okds_shape n ds h
    exact ⟨by simp [py, PyData.canLay0, h1], by simp [py, PyData.depth]; exact h2⟩
  | n + 1, .scr ds, h => by
    obtain ⟨h1, h2⟩ := okds_shape n ds h
    exact ⟨by simp [py, PyData.canLay0, h1], by simp [py, PyData.depth]; exact h2⟩
  | 0, .ins _ _ _, h => by cases h
  | n + 1, .ins _ _ _, h => by cases h
theorem okds_shape : ∀ (n : Nat) (ds : List P), okds n ds = true → PyData.canLayAll0 (pys ds) = true ∧ PyData.depthAll (pys ds) ≤ n
  | n, [], _ => by simp [pys, PyData.canLayAll0, PyData.depthAll]
  | n, d :: ds, h => by
    have h' : okd n d = true ∧ okds n ds = true := by
      have h2 : (okd n d && okds n ds) = true := h
      exact Bool.and_eq_true_iff.mp h2
    obtain ⟨a1, a2⟩ := okd_shape n d h'.1
    obtain ⟨b1, b2⟩ := okds_shape n ds h'.2
    exact ⟨by simp [pys, PyData.canLayAll0, a1, b1], by simp only [pys, PyData.depthAll]; omega⟩
end
theorem okd_shaped {n : Nat} {p : P} (h : okd n p = true) (hn : n ≤ 64) : SeqAt.shaped (py p) = true := by
  obtain ⟨h1, h2⟩ := okd_shape n p h
  unfold SeqAt.shaped
  rw [h1, decide_eq_true (by omega)]
  rfl
mutual
theorem dp_of {X : Addr → Prop} {H : Hp} : ∀ {n : Nat} {p : P} {v : V}, okd n p = true → Rp K X H v p → Dp K H v (py p)
  | _, _, _, _, .non => .non
  | _, _, _, _, .bl b => .bl b
  | _, _, _, _, .int i => .int i
  | _, _, _, _, .str s => .str s
  | 0, _, _, h, .tup _ _ _ => by cases h
  | 0, _, _, h, .tupK _ _ => by cases h
  | 0, _, _, h, .lst _ _ _ => by cases h
  | 0, _, _, h, .scr _ _ _ => by cases h
  | 0, _, _, h, .scrK _ _ => by cases h
  | n + 1, _, _, h, .tup hq _ r => .tup (.inl hq) (dps_of (n := n) h r)
  | n + 1, _, _, h, .tupK hq r => .tup (.inr hq) (dps_of (n := n) h r)
  | n + 1, _, _, h, .lst hq _ r => .lst (.inl (.inl hq)) (dps_of (n := n) h r)
  | n + 1, _, _, h, .scr hq _ r => .lst (.inl hq) (dps_of (n := n) h r)
  | n + 1, _, _, h, .scrK hq r => .lst (.inr hq) (dps_of (n := n) h r)
  | 0, _, _, h, .ins _ _ _ _ => by cases h
  | n + 1, _, _, h, .ins _ _ _ _ => by cases h
theorem dps_of {X : Addr → Prop} {H : Hp} : ∀ {n : Nat} {ps : List P} {vs : List V}, okds n ps = true → Rps K X H vs ps → DpAll K H vs (pys ps)
  | _, _, _, _, .nil => .nil
  | n, p :: ps, _, h, .cons r1 r2 => by
    have h' : okd n p = true ∧ okds n ps = true := Bool.and_eq_true_iff.mp h
    exact .cons (dp_of h'.1 r1) (dps_of h'.2 r2)
end
/-- == of data -/
def pEq (p q : P) : Bool := PyData.eqv (py p) (py q)
theorem rv_eq_d {n : Nat} (h1 : okd n p = true) (h2 : okd n q = true) (hn : n ≤ 64) : RV K (rEqA K) p q (.bl (pEq p q)) := fun X H x y hx r1 r2 Q k =>
  .inr ⟨py p, py q, dp_of h1 r1, dp_of h2 r2, okd_shaped h1 hn, okd_shaped h2 hn, k _ H (Same.refl H) (.bl _)⟩
theorem rv_ne_d {n : Nat} (h1 : okd n p = true) (h2 : okd n q = true) (hn : n ≤ 64) : RV K (rNeA K) p q (.bl (!pEq p q)) := fun X H x y hx r1 r2 Q k =>
  .inr ⟨py p, py q, dp_of h1 r1, dp_of h2 r2, okd_shaped h1 hn, okd_shaped h2 hn, k _ H (Same.refl H) (.bl _)⟩
/-! ### items, slices, in -/
theorem Rps.atI {X : Addr → Prop} {H : Hp} {xs : List V} {d : P} (r : Rps K X H xs ps) (h : atI ps i = some d) : ∃ v, L2.atI xs i = some v ∧ Rp K X H v d := by
  obtain ⟨j, _, ej, hj⟩ := atI_len (Rps.length r) h
  obtain ⟨v, ev, rv⟩ := Rps.get r ej
  exact ⟨v, hj v ev, rv⟩
theorem rv_ixT {d : P} (h : atI ps i = some d) : RV K (rIx K) (.tup ps) (.int i) d := fun X H x y hx r1 r2 Q k => by
  obtain ⟨a, xs, e1, q1, rx⟩ := r1.tupOf
  subst e1
  cases r2
  obtain ⟨v, ev, rv⟩ := rx.atI h
  exact .inr (.inl ⟨a, xs, i, v, rfl, rfl, q1, ev, k v H (Same.refl H) rv⟩)
theorem rv_ixL {d : P} (h : atI ps i = some d) : RV K (rIx K) (.lst ps) (.int i) d := fun X H x y hx r1 r2 Q k => by
  obtain ⟨a, xs, e1, q1, _, rx⟩ := r1.lstOf
  subst e1
  cases r2
  obtain ⟨v, ev, rv⟩ := rx.atI h
  exact .inl ⟨a, xs, i, v, rfl, rfl, .inl (.inl q1), ev, k v H (Same.refl H) rv⟩
theorem rv_ixR {d : P} (h : atI ps i = some d) : RV K (rIx K) (.scr ps) (.int i) d := fun X H x y hx r1 r2 Q k => by
  obtain ⟨a, xs, e1, q1, rx⟩ := r1.scrOf
  subst e1
  cases r2
  obtain ⟨v, ev, rv⟩ := rx.atI h
  exact .inl ⟨a, xs, i, v, rfl, rfl, q1, ev, k v H (Same.refl H) rv⟩
theorem rv_ixS {s : Str} {c : Nat} (hl : s.length ≤ sizeLine) (h : atI s.cps.toList i = some c) : RV K (rIx K) (.str s) (.int i) (.str ⟨#[c]⟩) := fun X H x y hx r1 r2 Q k => by
  cases r1; cases r2
  exact .inr (.inr ⟨s, i, c, rfl, rfl, hl, h, k _ H (Same.refl H) (.str _)⟩)
def toV : P → V
  | .non => .non | .bl b => .bl b | .int i => .int i | .str s => .str s | _ => .non
theorem flat_toV {X : Addr → Prop} {H : Hp} {v : V} (h : flat p = true) (r : Rp K X H v p) : v = toV p := by
  cases r <;> first | rfl | cases h
theorem flats_toV {X : Addr → Prop} {H : Hp} : ∀ {vs : List V} {ps : List P}, ps.all flat = true → Rps K X H vs ps → vs = ps.map toV
  | _, _, _, .nil => rfl
  | _, _, h, .cons r t => by
    rw [List.all_cons, Bool.and_eq_true] at h
    rw [flat_toV h.1 r, flats_toV h.2 t]
    rfl
theorem flat_flatV : ∀ {p : P}, flat p = true → flatV (toV p) = true
  | .non, _ => rfl
  | .bl _, _ => rfl
  | .int _, _ => rfl
  | .str _, _ => rfl
theorem flats_flatV : ∀ {ps : List P}, ps.all flat = true → (ps.map toV).all flatV = true
  | [], _ => rfl
  | p :: ps, h => by
    rw [List.all_cons, Bool.and_eq_true] at h
    rw [List.map_cons, List.all_cons, flat_flatV h.1, flats_flatV h.2]
    rfl
/-- x in a list or tuple of flat items -/
def inP (p : P) (ps : List P) : Bool := inV (toV p) (ps.map toV)
theorem rv_inL (h1 : flat p = true) (h2 : ps.all flat = true) {neg : Bool} : RV K (rIn K neg) p (.lst ps) (.bl (if neg then !inP p ps else inP p ps)) := fun X H x y hx r1 r2 Q k => by
  obtain ⟨a, xs, e1, q1, _, rx⟩ := r2.lstOf
  subst e1
  have ex := flat_toV h1 r1
  have exs := flats_toV h2 rx
  subst ex exs
  exact ⟨a, _, rfl, .inl (.inl (.inl q1)), flat_flatV h1, flats_flatV h2, k _ H (Same.refl H) (.bl _)⟩
theorem rv_inT (h1 : flat p = true) (h2 : ps.all flat = true) {neg : Bool} : RV K (rIn K neg) p (.tup ps) (.bl (if neg then !inP p ps else inP p ps)) := fun X H x y hx r1 r2 Q k => by
  obtain ⟨a, xs, e1, q1, rx⟩ := r2.tupOf
  subst e1
  have ex := flat_toV h1 r1
  have exs := flats_toV h2 rx
  subst ex exs
  exact ⟨a, _, rfl, .inr q1, flat_flatV h1, flats_flatV h2, k _ H (Same.refl H) (.bl _)⟩
theorem rv_isB {a b : Bool} : RV K (fun x y H Q => ∃ a b : Bool, x = .bl a ∧ y = .bl b ∧ Q (.bl (decide (a = b))) H) (.bl a) (.bl b) (.bl (a == b)) := fun X H x y hx r1 r2 Q k => by
  cases r1; cases r2
  have e : decide (a = b) = (a == b) := by cases a <;> cases b <;> rfl
  exact ⟨a, b, rfl, rfl, by rw [e]; exact k _ H (Same.refl H) (.bl _)⟩

/-! slices -/
def SLV (K : PySem.W.Frag) (r : V → Option Int → Option Int → Hp → VK → Prop) (p : P) (lo hi : Option Int) (z : P) : Prop := ∀ (X : Addr → Prop) (H : Hp) (x : V), (∀ a, X a → ∃ o, H a = some o) → Rp K X H x p → ∀ Q : VK, (∀ v H', Same H H' → Rp K X H' v z → Q v H') → r x lo hi H Q
def cutP {α : Type} (xs : List α) (lo hi : Option Int) : List α := (xs.drop (HT.sIx xs.length 0 lo)).take (HT.sIx xs.length xs.length hi - HT.sIx xs.length 0 lo)
theorem Rps.cut {X : Addr → Prop} {H : Hp} {xs : List V} (r : Rps K X H xs ps) (lo hi : Option Int) : Rps K X H (cutV xs lo hi) (cutP ps lo hi) := by
  unfold cutV cutP
  rw [Rps.length r]
  exact (r.drop _).take _
abbrev rSlSeq (K : PySem.W.Frag) : V → Option Int → Option Int → Hp → VK → Prop := fun x lo hi H Q => rSlA K x lo hi H Q ∨ rSlL K x lo hi H Q ∨ rSlS x lo hi H Q
theorem sl_seq {X : Cx} : SlR X (rSlSeq X.K) := sl_tupA.or (sl_list.or sl_str)
theorem slv_t {lo hi : Option Int} : SLV K (rSlSeq K) (.tup ps) lo hi (.tup (cutP ps lo hi)) := fun X H x hx r1 Q k => by
  obtain ⟨a, xs, e1, q1, rx⟩ := id r1.tupOf
  subst e1
  refine .inl ⟨a, xs, rfl, q1, fun ⟨e1, e2⟩ => ?_, fun _ p hp => k _ _ (same_new hp) (Rp.newT hx hp (rx.cut lo hi))⟩
  have e : cutP ps lo hi = ps := by
    unfold cutP
    rw [← Rps.length rx, e1, e2, List.drop_zero, Nat.sub_zero, Rps.length rx, List.take_length]
  rw [e] at k
  exact k _ H (Same.refl H) r1
theorem slv_l {lo hi : Option Int} : SLV K (rSlSeq K) (.lst ps) lo hi (.lst (cutP ps lo hi)) := fun X H x hx r1 Q k => by
  obtain ⟨a, xs, e1, q1, _, rx⟩ := r1.lstOf
  subst e1
  exact .inr (.inl ⟨a, xs, rfl, .inl (.inl q1), fun p hp => k _ _ (same_new hp) (Rp.newL hx hp (rx.cut lo hi))⟩)
theorem slv_r {lo hi : Option Int} : SLV K (rSlSeq K) (.scr ps) lo hi (.lst (cutP ps lo hi)) := fun X H x hx r1 Q k => by
  obtain ⟨a, xs, e1, q1, rx⟩ := r1.scrOf
  subst e1
  exact .inr (.inl ⟨a, xs, rfl, q1, fun p hp => k _ _ (same_new hp) (Rp.newL hx hp (rx.cut lo hi))⟩)
theorem slv_s {s : Str} {lo hi : Option Int} (h : s.length ≤ sizeLine) : SLV K (rSlSeq K) (.str s) lo hi (.str (cutS s lo hi)) := fun X H x hx r1 Q k => by
  cases r1
  exact .inr (.inr ⟨s, rfl, h, k _ H (Same.refl H) (.str _)⟩)
/-- an optional end of a slice -/
def EO (K : PySem.W.Frag) (to : TO) (Γ : Env) (M : Mem) (o : Option Int) : Prop :=
  ∀ (X : Addr → Prop) (A : List Addr) (σ : L2.St) (H : Hp), St K X A M Γ σ H → ∀ Q : Option Int → Hp → Prop, (∀ H', Same H H' → Q o H') → to σ H Q
end
/-- nothing at all changes but new objects -/
def EPs1 (K : PySem.W.Frag) (te : TE) (Γ : Env) (M : Mem) (p : P) : Prop := ∀ (X : Addr → Prop) (A : List Addr) (σ : L2.St) (H : Hp), St K X A M Γ σ H → ∀ Q : VK, (∀ A' v H', Tr A H A' H' → St K X A' M Γ σ H' → Rp K (XA X A') H' v p → Q v H') → te σ H Q
section
variable {K : PySem.W.Frag} {Γ : Env} {M : Mem} {te : TE} {tl th : TO} {p z : P} {lo hi : Option Int} {i : Int} {tar tk : TA} {ps : List P}
/-- the ends of a slice -/
def EO2 (K : PySem.W.Frag) (to : TO) (Γ : Env) (M : Mem) (o : Option Int) : Prop :=
  ∀ (X : Addr → Prop) (A : List Addr) (σ : L2.St) (H : Hp), St K X A M Γ σ H → ∀ Q : Option Int → Hp → Prop, (∀ A' H', Tr A H A' H' → St K X A' M Γ σ H' → Q o H') → to σ H Q
theorem eo_none : EO2 K tNoPart Γ M none := fun X A σ H s Q q => q A H .refl s
theorem eo_some (h : EP K te Γ M (.int i)) : EO2 K (tPart te) Γ M (some i) := fun X A σ H s Q q => h X A σ H s _ fun A1 M1 v d H1 t1 s1 r ⟨e1, e2⟩ => by
  subst e1 e2
  cases r with
  | v r => cases r; exact ⟨i, rfl, q A1 H1 t1 s1⟩
theorem ep_sl {r : V → Option Int → Option Int → Hp → VK → Prop} (h : EP K te Γ M p) (h1 : EO2 K tl Γ M lo) (h2 : EO2 K th Γ M hi) (hr : SLV K r p lo hi z) : EP K (tSl r te tl th) Γ M z := fun X A σ H s Q q =>
  h X A σ H s _ fun A1 M1 v d H1 t1 s1 r1 ⟨e1, e2⟩ => by
    subst e1 e2
    exact h1 X A1 σ H1 s1 _ fun A2 H2 t2 s2 => h2 X A2 σ H2 s2 _ fun A3 H3 t3 s3 =>
      hr (XA X A3) H3 v s3.ce.xa (t3.rp (t2.rp r1.toRp)) Q fun w H' sm rz => q A3 _ w (.v z) H' (((t1.trans t2).trans t3).trans (.ofSame sm)) (s3.same sm) (.v rz) ⟨rfl, rfl⟩
/-! ### built-ins -/
def lenP : P → Option Nat
  | .str s => if s.length ≤ sizeLine then some s.length else none
  | .tup ds => some ds.length | .lst ds => some ds.length | .scr ds => some ds.length
  | _ => none
theorem rc_len {n : Nat} (h : lenP p = some n) : RC K (fun xs H Q => ∃ x n, xs = [x] ∧ LenV K x H n ∧ Q (.int n) H) [p] (.int (n : Int)) := fun X H xs hx r Q k => by
  cases r with
  | cons r1 r2 =>
    cases r2
    refine ⟨_, n, rfl, ?_, k _ H (Same.refl H) (.int _)⟩
    cases r1 with
    | str s =>
      have h2 : (if s.length ≤ sizeLine then some s.length else none) = some n := h
      by_cases hl : s.length ≤ sizeLine
      · rw [if_pos hl] at h2
        cases h2
        exact ⟨hl, rfl⟩
      · rw [if_neg hl] at h2
        cases h2
    | tup hq _ rr => cases h; exact .inr ⟨_, .inl hq, (Rps.length rr).symm⟩
    | tupK hq rr => cases h; exact .inr ⟨_, .inr hq, (Rps.length rr).symm⟩
    | lst hq _ rr => cases h; exact .inl ⟨_, .inl (.inl hq), (Rps.length rr).symm⟩
    | scr hq _ rr => cases h; exact .inl ⟨_, .inl hq, (Rps.length rr).symm⟩
    | scrK hq rr => cases h; exact .inl ⟨_, .inr hq, (Rps.length rr).symm⟩
    | _ => cases h
theorem rc_abs : RC K (fun xs H Q => ∃ i, xs = [.int i] ∧ Q (.int (if i < 0 then -i else i)) H) [.int i] (.int (if i < 0 then -i else i)) := fun X H xs hx r Q k => by
  cases r with
  | cons r1 r2 => cases r2; cases r1; exact ⟨i, rfl, k _ H (Same.refl H) (.int _)⟩
theorem rc_int : RC K (fun xs H Q => (∃ i, xs = [.int i] ∧ Q (.int i) H) ∨ ∃ k, xs = [.bl k] ∧ Q (.int (if k then 1 else 0)) H) [.int i] (.int i) := fun X H xs hx r Q k => by
  cases r with
  | cons r1 r2 => cases r2; cases r1; exact .inl ⟨i, rfl, k _ H (Same.refl H) (.int _)⟩
theorem rc_intB {b : Bool} : RC K (fun xs H Q => (∃ i, xs = [.int i] ∧ Q (.int i) H) ∨ ∃ k, xs = [.bl k] ∧ Q (.int (if k then 1 else 0)) H) [.bl b] (.int (if b = true then 1 else 0)) := fun X H xs hx r Q k => by
  cases r with
  | cons r1 r2 => cases r2; cases r1; exact .inr ⟨b, rfl, k _ H (Same.refl H) (.int _)⟩
abbrev rMaxA (K : PySem.W.Frag) : List V → Hp → VK → Prop := fun xs H Q => rMax K xs H Q ∨ ∃ i j, xs = [.int i, .int j] ∧ Q (.int (if j > i then j else i)) H
abbrev rMinA (K : PySem.W.Frag) : List V → Hp → VK → Prop := fun xs H Q => rMin K xs H Q ∨ ∃ i j, xs = [.int i, .int j] ∧ Q (.int (if j < i then j else i)) H
theorem call_maxA {X : Cx} (hc : X.calm = true) : CallR X (.builtin "max") (rMaxA X.K) := (cr_max hc).or (call_max2 hc)
theorem call_minA {X : Cx} (hc : X.calm = true) : CallR X (.builtin "min") (rMinA X.K) := (cr_min hc).or (call_min2 hc)
theorem rc_max2 {j : Int} : RC K (rMaxA K) [.int i, .int j] (.int (if j > i then j else i)) := fun X H xs hx r Q k => by
  cases r with
  | cons r1 r2 => cases r2 with
    | cons r2 r3 => cases r3; cases r1; cases r2; exact .inr ⟨i, j, rfl, k _ H (Same.refl H) (.int _)⟩
theorem rc_min2 {j : Int} : RC K (rMinA K) [.int i, .int j] (.int (if j < i then j else i)) := fun X H xs hx r Q k => by
  cases r with
  | cons r1 r2 => cases r2 with
    | cons r2 r3 => cases r3; cases r1; cases r2; exact .inr ⟨i, j, rfl, k _ H (Same.refl H) (.int _)⟩
def maxL : List Int → Int
  | [] => 0
  | x :: xs => xs.foldl max x
def minL : List Int → Int
  | [] => 0
  | x :: xs => xs.foldl min x
theorem foldl_max_ge : ∀ (xs : List Int) (x : Int), x ≤ xs.foldl max x ∧ (∀ y ∈ xs, y ≤ xs.foldl max x) ∧ (xs.foldl max x = x ∨ xs.foldl max x ∈ xs)
  | [], x => ⟨Int.le_refl _, by simp, .inl rfl⟩
  | y :: ys, x => by
    obtain ⟨h1, h2, h3⟩ := foldl_max_ge ys (max x y)
    refine ⟨by simp only [List.foldl_cons]; omega, fun z hz => ?_, ?_⟩
    · simp only [List.foldl_cons]
      rcases List.mem_cons.mp hz with h | h
      · subst h; omega
      · exact h2 z h
    · simp only [List.foldl_cons]
      rcases h3 with h | h
      · rw [h]
        rcases Int.le_total x y with q | q
        · right; rw [show max x y = y by omega]; exact List.mem_cons_self ..
        · left; omega
      · exact .inr (List.mem_cons_of_mem _ h)
theorem foldl_min_le : ∀ (xs : List Int) (x : Int), xs.foldl min x ≤ x ∧ (∀ y ∈ xs, xs.foldl min x ≤ y) ∧ (xs.foldl min x = x ∨ xs.foldl min x ∈ xs)
  | [], x => ⟨Int.le_refl _, by simp, .inl rfl⟩
  | y :: ys, x => by
    obtain ⟨h1, h2, h3⟩ := foldl_min_le ys (min x y)
    refine ⟨by simp only [List.foldl_cons]; omega, fun z hz => ?_, ?_⟩
    · simp only [List.foldl_cons]
      rcases List.mem_cons.mp hz with h | h
      · subst h; omega
      · exact h2 z h
    · simp only [List.foldl_cons]
      rcases h3 with h | h
      · rw [h]
        rcases Int.le_total x y with q | q
        · left; omega
        · right; rw [show min x y = y by omega]; exact List.mem_cons_self ..
      · exact .inr (List.mem_cons_of_mem _ h)
theorem maxL_of {ns : List Int} {m : Int} (h1 : m ∈ ns) (h2 : ∀ y ∈ ns, y ≤ m) : m = maxL ns := by
  cases ns with
  | nil => cases h1
  | cons x xs =>
    obtain ⟨a, b, c⟩ := foldl_max_ge xs x
    show m = xs.foldl max x
    have e1 : m ≤ xs.foldl max x := by
      rcases List.mem_cons.mp h1 with h | h
      · subst h; exact a
      · exact b m h
    have e2 : xs.foldl max x ≤ m := by
      rcases c with h | h
      · rw [h]; exact h2 x (List.mem_cons_self ..)
      · exact h2 _ (List.mem_cons_of_mem _ h)
    omega
theorem minL_of {ns : List Int} {m : Int} (h1 : m ∈ ns) (h2 : ∀ y ∈ ns, m ≤ y) : m = minL ns := by
  cases ns with
  | nil => cases h1
  | cons x xs =>
    obtain ⟨a, b, c⟩ := foldl_min_le xs x
    show m = xs.foldl min x
    have e1 : xs.foldl min x ≤ m := by
      rcases List.mem_cons.mp h1 with h | h
      · subst h; exact a
      · exact b m h
    have e2 : m ≤ xs.foldl min x := by
      rcases c with h | h
      · rw [h]; exact h2 x (List.mem_cons_self ..)
      · exact h2 _ (List.mem_cons_of_mem _ h)
    omega
theorem rc_maxL {ns : List Int} (h : 0 < ns.length) : RC K (rMaxA K) [.lst (ns.map .int)] (.int (maxL ns)) := fun X H xs hx r Q k => by
  cases r with
  | cons r1 r2 =>
    cases r2
    obtain ⟨a, ys, e, hq, _, rr⟩ := r1.lstOf
    subst e
    have ey := rr.ints
    subst ey
    exact .inl ⟨a, ns, rfl, .inl (.inl hq), h, fun m h1 h2 => by rw [maxL_of h1 h2]; exact k _ H (Same.refl H) (.int _)⟩
theorem rc_minL {ns : List Int} (h : 0 < ns.length) : RC K (rMinA K) [.lst (ns.map .int)] (.int (minL ns)) := fun X H xs hx r Q k => by
  cases r with
  | cons r1 r2 =>
    cases r2
    obtain ⟨a, ys, e, hq, _, rr⟩ := r1.lstOf
    subst e
    have ey := rr.ints
    subst ey
    exact .inl ⟨a, ns, rfl, .inl (.inl hq), h, fun m h1 h2 => by rw [minL_of h1 h2]; exact k _ H (Same.refl H) (.int _)⟩
theorem rc_sum {ns : List Int} : RC K (rSum K) [.lst (ns.map .int)] (.int ns.sum) := fun X H xs hx r Q k => by
  cases r with
  | cons r1 r2 =>
    cases r2
    obtain ⟨a, ys, e, hq, _, rr⟩ := r1.lstOf
    subst e
    have ey := rr.ints
    subst ey
    exact ⟨a, ns, rfl, .inl (.inl hq), k _ H (Same.refl H) (.int _)⟩
abbrev rListO (K : PySem.W.Frag) : List V → Hp → VK → Prop := fun xs H Q => ∃ p ys, xs = [.ref p] ∧ (SqL K H p ys ∨ SqT K H p ys) ∧ ∀ l, H l = none → Q (.ref l) (upd H l (.lst ys))
abbrev rTupO (K : PySem.W.Frag) : List V → Hp → VK → Prop := fun xs H Q => ∃ p ys, xs = [.ref p] ∧ ((SqL K H p ys ∧ ∀ l, H l = none → Q (.ref l) (upd H l (.tup ys))) ∨ (SqT K H p ys ∧ Q (.ref p) H))
def itemsP : P → Option (List P)
  | .tup ds => some ds | .lst ds => some ds | .scr ds => some ds | _ => none
theorem items_sq {X : Addr → Prop} {H : Hp} {v : V} (h : itemsP p = some ps) (r : Rp K X H v p) : ∃ a xs, v = .ref a ∧ (SqL K H a xs ∨ SqT K H a xs) ∧ Rps K X H xs ps := by
  cases r with
  | tup hq _ rr => cases h; exact ⟨_, _, rfl, .inr (.inl hq), rr⟩
  | tupK hq rr => cases h; exact ⟨_, _, rfl, .inr (.inr hq), rr⟩
  | lst hq _ rr => cases h; exact ⟨_, _, rfl, .inl (.inl (.inl hq)), rr⟩
  | scr hq _ rr => cases h; exact ⟨_, _, rfl, .inl (.inl hq), rr⟩
  | scrK hq rr => cases h; exact ⟨_, _, rfl, .inl (.inr hq), rr⟩
  | _ => cases h
theorem rc_list (h : itemsP p = some ps) : RC K (rListO K) [p] (.lst ps) := fun X H xs hx r Q k => by
  cases r with
  | cons r1 r2 =>
    cases r2
    obtain ⟨a, ys, e, hq, rr⟩ := items_sq h r1
    subst e
    exact ⟨a, ys, rfl, hq, fun l hl => k _ _ (same_new hl) (Rp.newL hx hl rr)⟩
/-- list(x), to be a cell -/
theorem en_list (h : EPs K tar Γ M [p]) (hp : itemsP p = some ps) : EN K (tCB (rListO K) tar) Γ M fun M' ds => M' = M ∧ ds = ps.map .v := fun X A σ H s Q q =>
  h X A σ H s _ fun A' M' vs ds H' t s' r ⟨e1, e2⟩ => by
    subst e1 e2
    have rr := r.toRps
    cases rr with
    | cons r1 r2 =>
      cases r2
      obtain ⟨a, ys, e, hq, ry⟩ := items_sq hp r1
      subst e
      refine ⟨a, ys, rfl, hq, fun p hpn => ?_⟩
      have hp0 : H p = none := by
        cases e : H p with
        | none => rfl
        | some o =>
          obtain ⟨u, q⟩ := t.stay p o e
          rw [hpn] at q
          cases q
      have tx : TrX X A' H' (X1 X p) A' (upd H' p (.lst ys)) := (Tr.ofSame (same_new hpn)).x.more hpn
      exact q A' _ p ys _ _ (t.trans (.ofSame (same_new hpn))) hp0 (s'.fresh hpn) upd_same (.ofRps (tx.rps ry)) ⟨rfl, rfl⟩
theorem rc_tupleL : RC K (rTupO K) [.lst ps] (.tup ps) := fun X H xs hx r Q k => by
  cases r with
  | cons r1 r2 =>
    cases r2
    obtain ⟨a, ys, e, hq, _, rr⟩ := r1.lstOf
    subst e
    exact ⟨a, ys, rfl, .inl ⟨.inl (.inl hq), fun l hl => k _ _ (same_new hl) (Rp.newT hx hl rr)⟩⟩
theorem rc_tupleT : RC K (rTupO K) [.tup ps] (.tup ps) := fun X H xs hx r Q k => by
  cases r with
  | cons r1 r2 =>
    cases r2
    obtain ⟨a, ys, e, hq, rr⟩ := id r1.tupOf
    subst e
    exact ⟨a, ys, rfl, .inr ⟨hq, k _ H (Same.refl H) r1⟩⟩
/-! ### isinstance -/
/-- what is asked of the class of a told instance -/
structure ClsI (K : PySem.W.Frag) (C : Addr) : Prop where
  cl : Cls K C
  ha : PySem.W.findIn K (.ref C) "__class__" = some (some (.builtin "object.__class__"))
  hn : PySem.W.specialIn K (.builtin "object.__class__") "__get__" = some (some (.builtin "getset_descriptor.__get__"))
  htk : PySem.W.takesIn K (.builtin "object.__class__") = some true
  hm : PySem.W.mroIn K C (.type "object") = some true
def tyP : P → Value
  | .non => .type "NoneType" | .bl _ => .type "bool" | .int _ => .type "int" | .str _ => .type "str"
  | .tup _ => .type "tuple" | .lst _ => .type "list" | .scr _ => .type "list" | .ins C _ _ => .ref C
  | .dct _ _ => .type "dict" | .dcT _ _ => .type "dict"
def isInsP : P → Option Addr
  | .ins C _ _ => some C
  | _ => none
theorem tyX_of {X : Addr → Prop} {H : Hp} {v : V} (hc : ∀ C, isInsP p = some C → ClsI K C) (r : Rp K X H v p) : TyX K H v (tyP p) := by
  cases r with
  | non => exact .base .non
  | bl b => exact .base (.bl b)
  | int i => exact .base (.int i)
  | str s => exact .base (.str s)
  | tup h _ _ =>
    rcases h with h | ⟨o, h⟩
    · exact .base (.tup h)
    · exact .fTuple h
  | tupK h _ => obtain ⟨o, its, n, h1, h2, _⟩ := h; exact .kTuple h1 h2
  | lst h _ _ => exact .base (.lst h)
  | scr h _ _ =>
    rcases h with h | ⟨o, h⟩
    · exact .base (.lst h)
    · exact .base (.frz h)
  | scrK h _ => obtain ⟨o, its, n, h1, h2, _⟩ := h; exact .kList h1 h2
  | ins h _ _ _ =>
    obtain ⟨cl, ha, hn, htk, hm⟩ := hc _ rfl
    exact .base (.ins h cl ha hn htk hm)
  | dct h _ _ _ => exact .base (.dK h)
  | dcT h _ _ _ => exact .base (.dT h)
theorem ep_isi {cv : V} {u : Value} {b : Bool} (h : EF K te Γ M p) (hv : ClsV cv u) (hc : ∀ C, isInsP p = some C → ClsI K C) (hk : PySem.W.kitOne K (tyP p) u = some b) : EP K (tCB (rIsi K) (tCons te (tCons (tC cv) tNil))) Γ M (.bl b) := fun X A σ H s Q q =>
  h X A σ H s _ fun A1 M1 v d H1 t1 s1 r ⟨e1, e2⟩ => by
    subst e1
    exact ⟨v, cv, tyP p, u, b, rfl, hv, tyX_of hc (s1.ce.fz e2 r), hk, q A1 _ _ _ H1 t1 s1 (.v (.bl b)) ⟨rfl, rfl⟩⟩
theorem ep_isiT {c1 c2 : V} {u1 u2 : Value} {b : Bool} (h : EF K te Γ M p) (hv1 : ClsV c1 u1) (hv2 : ClsV c2 u2) (hc : ∀ C, isInsP p = some C → ClsI K C) (hk : PySem.W.kitAny K (tyP p) [u1, u2] = some b) :
    EP K (tCB (rIsiT K) (tCons te (tCons (tTup (tCons (tC c1) (tCons (tC c2) tNil))) tNil))) Γ M (.bl b) := fun X A σ H s Q q =>
  h X A σ H s _ fun A1 M1 v d H1 t1 s1 r ⟨e1, e2⟩ => by
    subst e1
    refine ⟨by show 2 ≤ sizeLine; decide, fun T hT => ?_⟩
    have sm := same_new (o := .tup [c1, c2]) hT
    exact ⟨v, T, [c1, c2], tyP p, [u1, u2], b, rfl, upd_same, .cons hv1 (.cons hv2 .nil), tyX_of hc ((s1.ce.fz e2 r).same sm), hk, q A1 _ _ _ _ (t1.trans (.ofSame sm)) (s1.same sm) (.v (.bl b)) ⟨rfl, rfl⟩⟩
/-! ### fields -/
theorem zip_lookup {X : Addr → Prop} {H : Hp} {f : Str} {d : P} : ∀ {ks : List Str} {vs : List V} {ds : List P}, Rps K X H vs ds → (ks.zip ds).lookup f = some d → ∃ v, (ks.zip vs).lookup f = some v ∧ Rp K X H v d
  | [], _, _, _, h => by cases h
  | k :: ks, _, _, .nil, h => by cases h
  | k :: ks, v :: vs, e :: ds, .cons r t, h => by
    rw [List.zip_cons_cons, List.lookup_cons] at h ⊢
    cases q : (f == k) with
    | true =>
      rw [q] at h
      cases h
      exact ⟨v, rfl, r⟩
    | false =>
      rw [q] at h
      exact zip_lookup t h
theorem ep_fld {C : Addr} {ks : List Str} {f : Str} {d : P} (h : EP K te Γ M (.ins C ks ps)) (hc : Cls K C) (hn : NoAttr K C f) (hl : (ks.zip ps).lookup f = some d) : EP K (tFld K te f) Γ M d := fun X A σ H s Q q =>
  h X A σ H s _ fun A1 M1 v e H1 t1 s1 r ⟨e1, e2⟩ => by
    subst e1 e2
    have rr := r.toRp
    cases rr with
    | ins ho hx hlen rs =>
      rename_i a dx vs
      obtain ⟨w, ew, rw_⟩ := zip_lookup rs hl
      exact ⟨a, C, dx, _, w, rfl, ho, hc, hn, ew, q A1 _ w (.v d) H1 t1 s1 (.v rw_) ⟨rfl, rfl⟩⟩
end
end Z
set_option maxRecDepth 100000
set_option maxHeartbeats 4000000
/-! The calculus: any sequence walked, enumerate of any sequence, starred displays, chains, calls by name. -/
namespace PySem
open AutoSeq1 (wpAny_loadPart')
theorem meets_enumerate_new1B {v : Value} {o : Obj} {H : Heap → Prop} (B : Begins v o H) :
    Meets (Builtin.«enumerate.__new__» ⟨[.type "enumerate", v], []⟩) (fun _ R s => H s.heap ∧
      R (.ok (.ret (.ref (s.heap.push o).objs.size))) { s with heap := (s.heap.push o).push { cls := .type "enumerate", data := .fields #[.none, .bool false, .ref s.heap.objs.size, rawInt 0, .none, .none] } }) :=
  .of_wp fun prog w A R s h => by
    obtain ⟨hp, g, d, tk, os⟩ := s; obtain ⟨h1, h⟩ := h
    have hsub := sub_enumerate
    have q1 : ∀ {A' : Around} {E : Value → Shared → Prop} {Q : Value → Shared → Prop}, Q (.ref hp.objs.size) ⟨hp.push o, g, d, tk, os⟩ → wpAny (model prog w) A' (pyIter v) Q E ⟨hp, g, d, tk, os⟩ :=
      fun q => B.iter prog w _ _ ⟨hp, g, d, tk, os⟩ _ h1 q
    wp_walk using q1
    refine wpAny_stack_any fun st => wpAny_pure ?_
    split
    · rename_i c _ _ _ _ _
      cases (c == Value.type "enumerate")
      · wp_walk using q1
        exact ⟨_, rfl, h⟩
      · wp_walk using q1
        exact ⟨_, rfl, h⟩
    · wp_walk using q1
      exact ⟨_, rfl, h⟩
theorem call_enumerate_1B {prog : Program} {w : World} {A : Around} {E : Value → Shared → Prop} {s : Shared} {v : Value} {o : Obj} {H : Heap → Prop} {Q : Value → Shared → Prop} (B : Begins v o H) (h1 : H s.heap)
    (h : ∀ h', IsEnum h' (s.heap.objs.size + 1) s.heap.objs.size 0 .none → h'.get? s.heap.objs.size = some o → h'.objs.size = s.heap.objs.size + 2 →
      (∀ b o, s.heap.get? b = some o → h'.get? b = some o) → Q (.ref (s.heap.objs.size + 1)) { s with heap := h' }) :
    wpAny (model prog w) A (call (.type "enumerate") [v]) Q E s := by
  refine callType_new F.called_enumerate (by decide) (F.typeCall_enumerate_1 _) (F.newCall_enumerate_1 _) (fun obj => F.args_object_init_2 obj _) F.entry_enumerate_new
    (meets_enumerate_new1B B) ⟨h1, ?_⟩
  have hz : (s.heap.push o).objs.size = s.heap.objs.size + 1 := Heap.size_push ..
  show _ ∧ _
  rw [hz]
  have he : IsEnum ((s.heap.push o).push { cls := .type "enumerate", data := .fields #[.none, .bool false, .ref s.heap.objs.size, rawInt 0, .none, .none] }) (s.heap.objs.size + 1) s.heap.objs.size 0 .none := by
    have := Heap.get?_push_size (s.heap.push o) (o := { cls := .type "enumerate", data := .fields #[.none, .bool false, .ref s.heap.objs.size, rawInt 0, .none, .none] }) rfl
    rw [hz] at this; exact this
  refine ⟨⟨_, he, rfl⟩, h _ he (Heap.get?_push_of_some _ (Heap.get?_push_size _ B.free)) (by rw [Heap.size_push, hz]) fun b o x => Heap.get?_push_of_some _ (Heap.get?_push_of_some _ x)⟩
theorem wpAny_pyNext_enum_endT {prog : Program} {w : World} {A : Around} {E : Value → Shared → Prop} {s : Shared} {e it l : Addr} {i : Nat} {items : Array Value} {old : Value} {Q : Option Value → Shared → Prop} (hh : A.handled = none)
    (he : IsEnum s.heap e it i old) (hit : s.heap.IsTupleIter it l i) (hl : s.heap.IsTuple l items) (hx : items[i]? = none)
    (hQ : ∀ h', Heap.ExtBut it s.heap h' → Q none { s with heap := h' }) : wpAny (model prog w) A (pyNext (.ref e)) Q E s := by
  have hT : s.TypeIs (.ref e) "enumerate" := ⟨_, he, rfl⟩
  unfold pyNext
  refine wpAny_bind (wpAny_attempt (wpAny_callSpecial?_slot (name := Str.ofString "__next__") hT F.slot_enumerate_next
    (wpAny_call_entry F.slot_enumerate_next hT F.entry_enumerate_next ?_ (F.args_enumerate_next_1 _))))
  show wpAny _ _ (field (.ref e) 2 >>= _) _ _ _
  refine wpAny_bind (wpAny_field he rfl (x := .ref it) rfl ?_)
  refine wpAny_bind (wpAny_nextOf_tuple_end hh hit hl hx fun h' x he' hx' => ?_)
  obtain ⟨o, ho, hc⟩ := hx'
  refine wpAny_bind (wpAny_isInstance (T := "StopIteration") (b := true) ⟨o, ho, hc⟩ isSubtype_stop ?_)
  exact wpAny_pure (hQ _ he')
end PySem
namespace Z
open PySem PySem.Spec PyProof.Rows L2
/-! ### enumerate(tuple) -/
def IteT (K : PySem.W.Frag) (a : Addr) : It :=
  ⟨fun i H => ∃ (xs : List V) (x : V), SqT K H a xs ∧ xs[i]? = some x, fun i H v H' => ∃ T x, v = .ref T ∧ H T = none ∧ H' = upd H T (.tup [.int (i : Nat), x]) ∧ ∀ xs, SqT K H a xs → xs[i]? = some x, fun i H => ∃ xs : List V, SqT K H a xs ∧ xs.length ≤ i⟩
theorem turn_enumT {P : Program} {w : World} {K : PySem.W.Frag} {elts : List Expr} {kk : Nat} {tpos : Pos} (a e it : Addr) :
    Turn P w K (.Tuple elts kk tpos) (IteT K a) [e, it] e (fun i h => (∃ old, IsEnum h e it ((i : Nat) : Int) old) ∧ h.IsTupleIter it a i ∧ e ≠ it ∧ a ≠ it) where
  mem := by simp
  obj := fun i h st b hb => by
    obtain ⟨⟨old, he⟩, ⟨o, ho, hc, hd⟩, _⟩ := st
    have e' : b = e ∨ b = it := by simpa using hb
    rcases e' with z | z
    · rw [z]; exact ⟨_, he, fun v q => nomatch q⟩
    · rw [z]; exact ⟨o, ho, fun v q => by rw [hd] at q; cases q⟩
  keep := fun i h h' st k => let ⟨⟨old, he⟩, hi, hne⟩ := st; ⟨⟨old, k e (by simp) _ he⟩, hi.at fun o q => k it (by simp) o q, hne⟩
  item := by
    intro X hP hw hK hc i pins s σ H E I hf st hg
    subst hP hw hK
    obtain ⟨⟨old, he⟩, hit, hne, hai⟩ := st
    obtain ⟨xs, x, hq, hx⟩ := hg
    obtain ⟨its, rv, p, hz⟩ := I.tuple hq
    obtain ⟨u, hu, ru⟩ := rv.get hx
    have hel : e < s.heap.objs.size := Heap.lt_size he
    have hil : it < s.heap.objs.size := by obtain ⟨_, q, _⟩ := hit; exact Heap.lt_size q
    have ea : e ≠ a := fun z => by
      obtain ⟨o, ho, hc, _⟩ := p
      rw [← z, he] at ho
      cases ho
      exact absurd (Value.type.inj hc) (by decide)
    have hlt : i < its.toArray.size := by
      have h1 := (List.getElem?_eq_some_iff.mp hu).1
      simpa using h1
    refine wpAny_pyNext_enum_itemD (Draws.tuple (by have h0 := I.ok.hd hc; simpa [Around.in1] using h0) it a hai its.toArray) he ⟨hit, p⟩ hlt hne (by simp [hne, ea]) fun x' h' tk hpx ho hst' hT hsz hk => ?_
    have hx' : x' = u := by
      have h2 : its.toArray[i]? = some u := by simpa using hu
      exact Option.some.inj (hpx.symm.trans h2)
    subst hx'
    refine ⟨_, rfl, wpAny_letOwnedTupleGo_enum (s := { s with heap := h', toks := tk + 1 }) ho fun h'' he' sb => ?_⟩
    have hT2 : h''.get? s.heap.objs.size = some { cls := .type "tuple", data := .seq #[.int i tk, x'] } := (sb.2 _ (Nat.ne_of_gt hel)).trans hT
    have new : ObjOk X.prog X.w (upd H s.heap.objs.size (.tup [.int (i : Nat), x])) h'' s.heap.objs.size (.tup [.int (i : Nat), x]) :=
      ⟨by show 2 ≤ sizeLine; decide, [.int i tk, x'], .cons ⟨_, rfl⟩ (.cons ru .nil), ⟨_, hT2, rfl, _, rfl⟩⟩
    have I1 : Inv X pins σ (upd H s.heap.objs.size (.tup [.int (i : Nat), x])) { s with heap := h'', toks := tk + 1 } :=
      I.turnedNew (ch := [e, it]) (fun b ob hb q => (sb.2 b (fun z => hb (by simp [z]))).trans (hk b ob (fun z => hb (by simp [z])) (fun z => hb (by simp [z])) q)) hf (Nat.le_refl _) new
    refine ⟨.ref s.heap.objs.size, _, I1, rfl, ⟨_, x, rfl, I.hok.fresh (Nat.le_refl _), rfl, fun ys hy => ?_⟩, ⟨⟨x', ?_⟩, hst'.1.at fun o q => (sb.2 it (Ne.symm hne)).trans q, hne, hai⟩, fun b hb => ?_⟩
    · rw [I.tuple_inj hy hq]
      exact hx
    · have e1 : ((i + 1 : Nat) : Int) = (i : Int) + 1 := by omega
      rw [e1]; exact he'
    · have hb' : b < s.heap.objs.size := by
        have e' : b = e ∨ b = it := by simpa using hb
        rcases e' with z | z
        · rw [z]; exact hel
        · rw [z]; exact hil
      rw [upd_ne (Nat.ne_of_lt hb')]
      exact (hf b hb).1
  done := by
    intro X hP hw hK hc i pins s σ H E I hf st hg
    subst hP hw hK
    obtain ⟨⟨old, he⟩, hit, hne, hai⟩ := st
    obtain ⟨xs, hq, hx⟩ := hg
    obtain ⟨its, rv, p, hz⟩ := I.tuple hq
    obtain ⟨f0, f1, f2, f3, f4, f5⟩ := hf it (by simp)
    have hl := rv.length
    exact wpAny_pyNext_enum_endT (I.ok.hd hc) he hit p (by simp; omega) fun h' eb => ⟨rfl, I.turned (t' := s.toks) (fun b o hb q => eb b o hb q) f0 f1 f3 f4 f5⟩
  self := fun A i s Q E st h => let ⟨⟨_, he⟩, _⟩ := st; wpAny_pyIter_enum he h
/-! ### a for over any sequence -/
def iSeq (K : PySem.W.Frag) (tl : TE) : TI := fun σ H R => tl σ H fun x H1 => ∃ a, x = .ref a ∧ (((∃ xs, SqL K H1 a xs) ∧ R (Itl K a) H1) ∨ ((∃ xs, SqT K H1 a xs) ∧ R (Itt K a) H1))
theorem pi_seq {X : Cx} {tg l : Expr} {tl : TE} (hl : PE X l tl) : PI X tg l (iSeq X.K tl) := by
  refine ⟨fun pins s σ H R I h => ?_⟩
  refine thn (hl.run pins s σ H _ I h) fun v s1 ⟨x, H1, I1, r1, q1⟩ => ?_
  obtain ⟨a, e, q1⟩ := q1
  subst e
  cases r1
  rcases q1 with ⟨⟨xs, hq⟩, q⟩ | ⟨⟨xs, hq⟩, q⟩
  · obtain ⟨its, rv, p, hz⟩ := I1.list hq
    refine wpAny_pyIter_list p.isList ?_
    refine ⟨s1.heap.objs.size, [s1.heap.objs.size], _, _, H1, rfl, I1.kept (t' := s1.toks) fun b o e => Heap.get?_push_of_some _ e, turn_list a _, ⟨_, Heap.get?_push_size _ rfl, rfl, rfl⟩, fun b hb => ?_, q⟩
    have e : b = s1.heap.objs.size := by simpa using hb
    subst e
    exact I1.fpOk (Nat.le_refl _) (I1.hok.fresh (Nat.le_refl _))
  · obtain ⟨its, rv, p, hz⟩ := I1.tuple hq
    refine wpAny_pyIter_tuple (show s1.heap.IsTuple a its.toArray from p) ?_
    refine ⟨s1.heap.objs.size, [s1.heap.objs.size], _, _, H1, rfl, I1.kept (t' := s1.toks) fun b o e => Heap.get?_push_of_some _ e, turn_tuple a _, ⟨_, Heap.get?_push_size _ rfl, rfl, rfl⟩, fun b hb => ?_, q⟩
    have e : b = s1.heap.objs.size := by simpa using hb
    subst e
    exact I1.fpOk (Nat.le_refl _) (I1.hok.fresh (Nat.le_refl _))
def iEnumS (K : PySem.W.Frag) (ta : TA) : TI := fun σ H R => ta σ H fun vs H1 => ∃ a, vs = [.ref a] ∧ (((∃ xs, SqL K H1 a xs) ∧ R (Ite K a) H1) ∨ ((∃ xs, SqT K H1 a xs) ∧ R (IteT K a) H1))
theorem pi_enumS {X : Cx} {e : Expr} {ta : TA} {p pos tpos : Pos} {elts : List Expr} {kk : Nat} (hg : Gl X "enumerate") (hm : X.mg "enumerate" = none) (ha : PA X [e] ta) (hs : starEach [e] X.env = [(false, eval e X.env)] := by rfl) :
    PI X (.Tuple elts kk tpos) (.Call (.Name "enumerate" p) [e] [] pos) (iEnumS X.K ta) := by
  refine ⟨fun pins s σ H R I h => ?_⟩
  refine Call_ (ld_blt I hg hm boot_enumerate (PyProof.Rows.callWith_type1 (thn (ha.run pos pins s σ H _ I h) fun us s1 ⟨vs, H1, I1, r1, q1⟩ => ?_) hs rfl))
  obtain ⟨a, ex, q1⟩ := q1
  subst ex
  cases r1 with
  | cons r rr =>
    cases rr
    cases r
    have fp : ∀ b ∈ [s1.heap.objs.size + 1, s1.heap.objs.size], FpOk X pins H1 b := fun b hb => by
      have e' : b = s1.heap.objs.size + 1 ∨ b = s1.heap.objs.size := by simpa using hb
      have hle : s1.heap.objs.size ≤ b := by
        rcases e' with z | z
        · rw [z]; exact Nat.le_add_right _ _
        · rw [z]; exact Nat.le_refl _
      exact I1.fpOk hle (I1.hok.fresh hle)
    rcases q1 with ⟨⟨xs, hq⟩, q⟩ | ⟨⟨xs, hq⟩, q⟩
    · obtain ⟨its, rv, p', hz⟩ := I1.list hq
      refine call_enumerate_list p'.isList fun h' he hit hsz hk => wpAny_pyIter_enum he ?_
      have I2 : Inv X pins σ H1 { s1 with heap := h' } := I1.kept (t' := s1.toks) hk
      exact ⟨s1.heap.objs.size + 1, [s1.heap.objs.size + 1, s1.heap.objs.size], _, _, H1, rfl, I2, turn_enum a (s1.heap.objs.size + 1) s1.heap.objs.size, ⟨⟨.none, he⟩, hit, Nat.succ_ne_self _⟩, fp, q⟩
    · obtain ⟨its, rv, p', hz⟩ := I1.tuple hq
      refine call_enumerate_1B (begins_tuple a its.toArray) p' fun h' he hit hsz hk => wpAny_pyIter_enum he ?_
      have I2 : Inv X pins σ H1 { s1 with heap := h' } := I1.kept (t' := s1.toks) hk
      have hal : a < s1.heap.objs.size := by obtain ⟨o, ho, _⟩ := p'; exact Heap.lt_size ho
      exact ⟨s1.heap.objs.size + 1, [s1.heap.objs.size + 1, s1.heap.objs.size], _, _, H1, rfl, I2, turn_enumT a (s1.heap.objs.size + 1) s1.heap.objs.size, ⟨⟨.none, he⟩, ⟨_, hit, rfl, rfl⟩, Nat.succ_ne_self _, Nat.ne_of_lt hal⟩, fp, q⟩
end Z
set_option maxRecDepth 100000
set_option maxHeartbeats 4000000
/-! The calculus: enumerate, stars, chains, index, new instances, calls by keywords alone, promises that give cells. -/
namespace Z
open PySem PySem.Spec PyProof.Rows L2

/-! ### iterators -/
section
variable {K : PySem.W.Frag} {Γ : Env} {M : Mem} {Φ : Mem → List P → Prop} {ps : List P} {tl : TE} {ta : TA}
def enumP : Nat → List P → List P
  | _, [] => []
  | i, p :: ps => .tup [.int (i : Nat), p] :: enumP (i + 1) ps
theorem enumP_len : ∀ (i : Nat) (ps : List P), (enumP i ps).length = ps.length
  | _, [] => rfl
  | i, p :: ps => congrArg Nat.succ (enumP_len (i + 1) ps)
theorem enumP_get : ∀ {j i : Nat} {ps : List P} {p : P}, ps[i]? = some p → (enumP j ps)[i]? = some (.tup [.int ((j + i : Nat) : Int), p])
  | j, 0, q :: ps, p, h => by
    simp at h
    subst h
    rfl
  | j, i + 1, q :: ps, p, h => by
    have h2 := enumP_get (j := j + 1) (i := i) (ps := ps) (p := p) (by simpa using h)
    rw [show j + 1 + i = j + (i + 1) by omega] at h2
    simpa [enumP] using h2
theorem wk_pair {X : Addr → Prop} {A : List Addr} {H : Hp} {J : It} {xs : List V} {G : Hp → Prop} (w : Walk J xs.length G (YPair (fun i => some (.int (i : Nat))) (fun i => xs[i]?))) (h : ∀ X' A' H', TrX X A H X' A' H' → G H') (r : Rps K (XA X A) H xs ps) : Wk K X A H J (enumP 0 ps) :=
  ⟨_, _, by rw [enumP_len, ← Rps.length r]; exact w, fun X' A' H1 t => ⟨h X' A' H1 t, fun hx i x H2 hi y => by
    obtain ⟨T, a, b, e1, e2, e3, e4, e5⟩ := y
    subst e1 e3
    cases e4
    obtain ⟨d, f1, r1⟩ := Rps.getV r e5
    have f2 := enumP_get (j := 0) f1
    rw [Nat.zero_add] at f2
    exact ⟨same_new e2, _, f2, Rp.newT hx e2 (.cons (.int _) (.cons (t.rp r1) .nil))⟩⟩⟩
theorem walk_enumT {a : Addr} {xs : List V} : Walk (IteT K a) xs.length (fun H => SqT K H a xs) (YPair (fun i => some (.int (i : Nat))) (fun i => xs[i]?)) := by
  refine ⟨fun i _ hi q => ⟨xs, xs[i], q, by simp [hi]⟩, fun _ q => ⟨xs, q, Nat.le_refl _⟩, fun i H v H' _ q y => ?_⟩
  obtain ⟨T, x, h1, h2, h3, h4⟩ := y
  exact ⟨T, .int (i : Nat), x, h1, h2, h3, rfl, h4 xs q⟩
theorem seq_of {X : Addr → Prop} {A : List Addr} {H : Hp} {v : V} {p : P} (h : itemsP p = some ps) (r : Rp K (XA X A) H v p) : ∃ a xs, v = .ref a ∧ ((∀ X' A' H', TrX X A H X' A' H' → SqL K H' a xs) ∨ (∀ X' A' H', TrX X A H X' A' H' → SqT K H' a xs)) ∧ Rps K (XA X A) H xs ps := by
  cases r with
  | tup hq n rr => cases h; exact ⟨_, _, rfl, .inr fun X' A' H' t => .inl (Rd.keep hq fun o e => t.keep _ o e n), rr⟩
  | tupK hq rr => cases h; exact ⟨_, _, rfl, .inr fun X' A' H' t => .inr hq, rr⟩
  | lst hq n rr => cases h; exact ⟨_, _, rfl, .inl fun X' A' H' t => .inl (.inl (t.keep _ _ hq n)), rr⟩
  | scr hq n rr => cases h; exact ⟨_, _, rfl, .inl fun X' A' H' t => .inl (Rd.keep hq fun o e => t.keep _ o e n), rr⟩
  | scrK hq rr => cases h; exact ⟨_, _, rfl, .inl fun X' A' H' t => .inr hq, rr⟩
  | _ => cases h
theorem ei_seq (h : EV K tl Γ M fun M' d => ∃ p ps, d = .v p ∧ itemsP p = some ps ∧ Φ M' ps) : EI K (iSeq K tl) Γ M Φ := fun X A σ H s R q =>
  h X A σ H s _ fun A' M' v d H' t s' r ⟨p, ps, e, hp, f⟩ => by
    subst e
    obtain ⟨a, xs, e, hq, rs⟩ := seq_of hp r.toRp
    subst e
    rcases hq with hq | hq
    · exact ⟨a, rfl, .inl ⟨⟨xs, hq X A' H' .refl⟩, q A' M' ps _ H' t s' (wk_list hq rs) f⟩⟩
    · exact ⟨a, rfl, .inr ⟨⟨xs, hq X A' H' .refl⟩, q A' M' ps _ H' t s' (wk_tup hq rs) f⟩⟩
theorem eip_seq {p : P} (h : EP K tl Γ M p) (hp : itemsP p = some ps) : EIp K (iSeq K tl) Γ M ps := ei_seq (ev_ep h ⟨p, ps, rfl, hp, rfl, rfl⟩)
theorem ei_enum (h : EA K ta Γ M fun M' ds => ∃ p ps, ds = [.v p] ∧ itemsP p = some ps ∧ Φ M' (enumP 0 ps)) : EI K (iEnumS K ta) Γ M Φ := fun X A σ H s R q =>
  h X A σ H s _ fun A' M' vs ds H' t s' r ⟨p, ps, e, hp, f⟩ => by
    subst e
    cases r with
    | cons r1 r2 =>
      cases r2
      obtain ⟨a, xs, e, hq, rs⟩ := seq_of hp r1.toRp
      subst e
      rcases hq with hq | hq
      · exact ⟨a, rfl, .inl ⟨⟨xs, hq X A' H' .refl⟩, q A' M' _ _ H' t s' (wk_pair walk_enum hq rs) f⟩⟩
      · exact ⟨a, rfl, .inr ⟨⟨xs, hq X A' H' .refl⟩, q A' M' _ _ H' t s' (wk_pair walk_enumT hq rs) f⟩⟩
theorem eip_enum {p : P} (h : EPs K ta Γ M [p]) (hp : itemsP p = some ps) : EIp K (iEnumS K ta) Γ M (enumP 0 ps) := ei_enum (ea_ep h ⟨p, ps, rfl, hp, rfl, rfl⟩)
end

/-! ### stars, chains, methods of data -/
section
variable {K : PySem.W.Frag} {Γ : Env} {M : Mem} {Φs : Mem → List D → Prop} {ps qs es : List P} {te ta tb tc : TE} {t tar : TA} {p q z : P} {b c : Bool}
theorem ea_star (h : EV K te Γ M fun M1 d => ∃ p ps, d = .v p ∧ itemsP p = some ps ∧ EA K t Γ M1 fun M2 ds => Φs M2 (ps.map .v ++ ds)) : EA K (StX.tStar K te t) Γ M Φs := fun X A σ H s Q q =>
  h X A σ H s _ fun A1 M1 v1 d1 H1 t1 s1 r1 ⟨p, ps, e1, hp, h2⟩ => by
    subst e1
    obtain ⟨a, xs, e, hq, rs⟩ := items_sq hp r1.toRp
    subst e
    exact ⟨a, xs, rfl, hq.elim .inr .inl, h2 X A1 σ H1 s1 _ fun A2 M2 vs ds H2 t2 s2 r2 f => q A2 M2 _ _ H2 (t1.trans t2) s2 ((RDs.ofRps (t2.rds (.ofRps rs)).toRps).append r2) f⟩
theorem eps_star (h : EP K te Γ M p) (hp : itemsP p = some ps) (ht : EPs K t Γ M qs) : EPs K (StX.tStar K te t) Γ M (ps ++ qs) :=
  ea_star (ev_ep h ⟨p, ps, rfl, hp, ea_ep ht ⟨rfl, by rw [List.map_append]⟩⟩)
theorem ep_chain {r r' : R2} (ha : EP K ta Γ M p) (hb : EP K tb Γ M q) (h1 : RV K r p q (.bl b)) (hc : b = true → EP K tc Γ M z) (h2 : b = true → RV K r' q z (.bl c)) : EP K (tChain r r' ta tb tc) Γ M (.bl (b && c)) := fun X A σ H s Q k =>
  ha X A σ H s _ fun A1 M1 v1 d1 H1 t1 s1 r1 ⟨e1, e2⟩ => by
    subst e1 e2
    refine hb X A1 σ H1 s1 _ fun A2 M2 v2 d2 H2 t2 s2 r2 ⟨e1, e2⟩ => ?_
    subst e1 e2
    refine h1 (XA X A2) H2 v1 v2 s2.ce.xa (t2.rp r1.toRp) r2.toRp _ fun v H' sm rz => ?_
    cases rz
    refine ⟨b, rfl, ?_⟩
    have s3 := s2.same sm
    cases b with
    | false => exact k A2 _ _ _ H' ((t1.trans t2).trans (.ofSame sm)) s3 (.v (.bl false)) ⟨rfl, rfl⟩
    | true =>
      rw [if_pos rfl]
      refine hc rfl X A2 σ H' s3 _ fun A3 M3 v3 d3 H3 t3 s4 r3 ⟨e1, e2⟩ => ?_
      subst e1 e2
      exact h2 rfl (XA X A3) H3 v2 v3 s4.ce.xa (t3.rp (r2.toRp.same sm)) r3.toRp Q fun v H4 sm2 rz => k A3 _ v _ H4 (((t1.trans t2).trans (.ofSame sm)).trans (t3.trans (.ofSame sm2))) (s4.same sm2) (.v rz) ⟨rfl, rfl⟩
/-- a method of data -/
def MD (K : PySem.W.Frag) (r : V → List V → Hp → VK → Prop) (p : P) (es : List P) (z : P) : Prop := ∀ (X : Addr → Prop) (H : Hp) (x : V) (vs : List V), (∀ a, X a → ∃ o, H a = some o) → Rp K X H x p → Rps K X H vs es → ∀ Q : VK, (∀ v H', Same H H' → Rp K X H' v z → Q v H') → r x vs H Q
def tyB : String → P → Bool
  | "list", .lst _ => true | "list", .scr _ => true | "str", .str _ => true | "int", .int _ => true | _, _ => false
theorem tyB_ok {T : String} {X : Addr → Prop} {H : Hp} {v : V} (h : tyB T p = true) (r : Rp K X H v p) : tyV K T v H := by
  unfold tyB at h
  split at h
  · cases r with
    | lst hq n rr => exact .inl ⟨rfl, _, .inl (.inl hq)⟩
  · cases r with
    | scr hq n rr => exact .inl ⟨rfl, _, .inl hq⟩
    | scrK hq rr => exact .inl ⟨rfl, _, .inr hq⟩
  · cases r; rfl
  · cases r; rfl
  · cases h
theorem ep_bmV {T : String} {r : V → List V → Hp → VK → Prop} (ha : EP K ta Γ M p) (ht : tyB T p = true) (hb : EPs K tar Γ M es) (hr : MD K r p es z) : EP K (tBM K T r ta tar) Γ M z := fun X A σ H s Q k =>
  ha X A σ H s _ fun A1 M1 v1 d1 H1 t1 s1 r1 ⟨e1, e2⟩ => by
    subst e1 e2
    refine ⟨tyB_ok ht r1.toRp, hb X A1 σ H1 s1 _ fun A2 M2 v2 d2 H2 t2 s2 r2 ⟨e1, e2⟩ => ?_⟩
    subst e1 e2
    exact hr (XA X A2) H2 v1 v2 s2.ce.xa (t2.rp r1.toRp) r2.toRps Q fun v H' sm rz => k A2 _ v (.v z) H' ((t1.trans t2).trans (.ofSame sm)) (s2.same sm) (.v rz) ⟨rfl, rfl⟩
theorem ep_bmV0 {T : String} {r : V → List V → Hp → VK → Prop} (ha : EP K ta Γ M p) (ht : tyB T p = true) (hr : MD K r p [] z) : EP K (tBM0 K T r ta) Γ M z := fun X A σ H s Q k =>
  ha X A σ H s _ fun A1 M1 v1 d1 H1 t1 s1 r1 ⟨e1, e2⟩ => by
    subst e1 e2
    exact ⟨tyB_ok ht r1.toRp, hr (XA X A1) H1 v1 [] s1.ce.xa r1.toRp .nil Q fun v H' sm rz => k A1 _ v (.v z) H' (t1.trans (.ofSame sm)) (s1.same sm) (.v rz) ⟨rfl, rfl⟩⟩
def idxP (p : P) : List P → Option Nat
  | [] => none
  | q :: qs => if eqV (toV q) (toV p) = true then some 0 else (idxP p qs).map (· + 1)
theorem idxP_ok : ∀ {qs : List P} {j : Nat}, idxP p qs = some j → ∃ z, (qs.map toV)[j]? = some z ∧ eqV z (toV p) = true ∧ ∀ (m : Nat) (z' : V), m < j → (qs.map toV)[m]? = some z' → eqV z' (toV p) = false
  | [], j, h => by cases h
  | q :: qs, j, h => by
    unfold idxP at h
    by_cases e : eqV (toV q) (toV p) = true
    · rw [if_pos e] at h
      cases h
      exact ⟨_, rfl, e, fun m z' hm => absurd hm (Nat.not_lt_zero _)⟩
    · rw [if_neg e] at h
      cases e2 : idxP p qs with
      | none => rw [e2] at h; cases h
      | some i =>
        rw [e2] at h
        cases h
        obtain ⟨z, h1, h2, h3⟩ := idxP_ok e2
        refine ⟨z, by simpa using h1, h2, fun m z' hm hz => ?_⟩
        cases m with
        | zero =>
          simp at hz
          subst hz
          exact Bool.eq_false_iff.mpr e
        | succ m => exact h3 m z' (Nat.lt_of_succ_lt_succ hm) (by simpa using hz)
theorem md_index {j : Nat} (h1 : flat p = true) (h2 : ps.all flat = true) (h : idxP p ps = some j) : MD K (rIndex K) (.lst ps) [p] (.int (j : Nat)) := fun X H x vs hx r1 r2 Q k => by
  obtain ⟨a, xs, e, hq, n, rr⟩ := r1.lstOf
  subst e
  cases r2 with
  | cons r3 r4 =>
    cases r4
    rw [flat_toV h1 r3]
    rw [flats_toV h2 rr] at hq
    obtain ⟨z, e1, e2, e3⟩ := idxP_ok h
    exact ⟨a, _, _, j, z, rfl, rfl, .inl (.inl hq), flat_flatV h1, flats_flatV h2, e1, e2, e3, k _ H (fun _ _ e => e) (.int _)⟩
end

/-! ### a for unrolled -/
section
variable {K : PySem.W.Frag} {n : Nat} {wi : TI} {g : TG} {tb : TS} {Γ : Env} {M : Mem} {E : DE}
def ForU (K : PySem.W.Frag) (n : Nat) (g : TG) (tb : TS) (E : DE) : List P → Env → Mem → Prop
  | [], Γ, M => E.nx Γ M
  | p :: ps, Γ, M => GV K g p Γ M fun Γ2 => SV K n tb Γ2 M { nx := NI K n (ForU K n g tb E ps), ct := NI K n (ForU K n g tb E ps), bk := E.nx, rt := E.rt }
theorem forU_nil (h : E.nx Γ M) : ForU K n g tb E [] Γ M := h
theorem forU_cons {p : P} {ps : List P} (h : GV K g p Γ M fun Γ2 => SV K n tb Γ2 M { nx := NI K n (ForU K n g tb E ps), ct := NI K n (ForU K n g tb E ps), bk := E.nx, rt := E.rt }) : ForU K n g tb E (p :: ps) Γ M := h
theorem sv_forU (hi : EI K wi Γ M fun M0 items => ForU K M0.length g tb E items Γ M0) : SV K n (tFor wi g tb) Γ M E := by
  refine sv_for fun X A σ H s R q => hi X A σ H s R fun A' M' its J H' t s' wk f => q A' M' its J H' t s' wk ?_
  refine ⟨fun i Γ1 M1 => ForU K M'.length g tb E (its.drop i) Γ1 M1, f, fun i p Γ1 M1 e h => ?_, fun Γ1 M1 h => ?_⟩
  · have e2 : its.drop i = p :: its.drop (i + 1) := by
      rw [List.drop_eq_getElem?_toList_append, e]
      rfl
    have h2 : ForU K M'.length g tb E (its.drop i) Γ1 M1 := h
    rw [e2] at h2
    exact h2
  · have h2 : ForU K M'.length g tb E (its.drop its.length) Γ1 M1 := h
    rw [List.drop_length] at h2
    exact h2
end

/-! ### a def called by keywords alone -/
section
variable {X : Cx} {CX : CXT} {k n : Nat} {f : Addr} {fd : FuncData} {ps ks : List Str} {sp : Sp} {E : XK} {x : Str} {p pos : Pos} {kws : List Keyword} {tk : TA} {g : List Value → List Value → List Value} {gV : List V → List V → List V}
theorem pe_callN0 (F : FnOk X.prog X.w X.K X.mg X.base CX k f fd ps sp) (hr : Room k X.A) (hg : Gl X x) (hm : X.mg x = some (.ref f)) (hk : PySem.W.keepIn X.K (.ref f) = true) (hb : KBn X.K fd ps 0 ks g gV) (hx : Passes CX X E)
    (hkw : PK X kws tk) (hall : (backToKw pos (keywordEach kws X.env)).all (·.1.isSome) = true := by rfl) (hks : (backToKw pos (keywordEach kws X.env)).filterMap (·.1) = ks := by rfl)
    (hdb : (x == ("__debug__" : Str)) = false := by decide)
    (hpl : ((backTo pos (starEach [] X.env)).any (·.1) || (backToKw pos (keywordEach kws X.env)).any (·.1.isNone)) = false := by rfl) :
    PE X (.Call (.Name x p) [] kws pos) (tCallN 0 ks.length sp gV E tNil tk) := by
  refine ⟨fun pins s σ H Q I h => ?_⟩
  refine wpAny_Call_Name_kw (ld_glob I hg hm ?_ hdb)
  refine PySem.W.callWith_KW0 (h₀ := X.base) I.ok.mod.kin hk hall ?_ hpl
  refine thn (hkw.run pos pins s σ H _ I h) fun ws s2 ⟨zs, H2, I2, rz, l1, l2, q2⟩ => ⟨I2.kIn, ?_⟩
  rw [hks]
  exact run_fnN (us := []) (vs := []) F hr hb hx I2 .nil rz rfl l2 q2
end
/-- a def without defaults: how keywords are bound -/
theorem kbN {K : PySem.W.Frag} {x qual : Str} {params : Arguments} {body : List Stmt} {scope : Scope} {f : Addr} {fd : FuncData} {ps : List Str} (F : FunD K x qual params body scope [] [] f fd) (n : Nat) (ks : List Str) (ix : List Nat)
    (h : ∀ (kV doc pm : Value) (an : Option Addr) (cdv ct : Value) (us ws : List Value), us.length = n → ws.length = ks.length → bindArgs (PySem.W.fnOf x qual params body scope .none kV doc pm an cdv ct) ⟨us, ks.zip ws⟩ = pure (ps.zip (perm ix (us ++ ws)))) :
    KBn K fd ps n ks (fun us ws => perm ix (us ++ ws)) (fun vs zs => perm ix (vs ++ zs)) := by
  obtain ⟨oc, od, dV, kV, doc, pm, an, cdv, ct, osl, rfl, lk, hcd, hD, hK⟩ := F.ex
  rcases hD with ⟨_, rfl⟩ | ⟨e, _⟩
  · refine ⟨fun s us ws X l1 l2 => .of_eq (h kV doc pm an cdv ct us ws l1 l2), fun r1 r2 => Vals.perm (r1.append r2) ix⟩
  · exact absurd rfl e
end Z
set_option maxRecDepth 100000
set_option maxHeartbeats 4000000
/-! The calculus: new instances, attributes set; promises that give cells. -/
namespace Z
open PySem PySem.Spec PyProof.Rows L2

theorem rps_nil {K : PySem.W.Frag} {X : Addr → Prop} {H : Hp} : Rps K X H [] [] := .nil
/-- what __init__ promises: the instance's attributes ks are the data res x -/
def MF (K : PySem.W.Frag) (C : Addr) {α : Type} (args : α → List P) (pre : α → Prop) (ks : List Str) (res : α → List P) : Sp := fun vs H Q _ =>
  ∃ (X : Addr → Prop) (a dx : Addr) (vs' : List V) (x : α), vs = .ref a :: vs' ∧ ¬ X a ∧ H a = some (.ins C dx []) ∧ (∀ b, X b → ∃ o, H b = some o) ∧ Rps K (X1 X a) H vs' (args x) ∧ pre x ∧
    ∀ H' dx' ws, (∀ b o, H b = some o → b ≠ a → H' b = some o) → H' a = some (.ins C dx' (ks.zip ws)) → ks.length = ws.length → Rps K (X1 X a) H' ws (res x) → Q .non H'
section
variable {K : PySem.W.Frag} {C : Addr} {α : Type} {args : α → List P} {pre : α → Prop} {ks : List Str} {res : α → List P} {Γ : Env} {M : Mem} {E : XK} {t tk : TA} {ps qs : List P}
theorem made {X : Addr → Prop} {A : List Addr} {σ : L2.St} {H : Hp} {p dx : Addr} {vs : List V} {x : α} {Q : VK} (s : St K X A M Γ σ H) (h1 : H p = none) (h2 : H dx = none) (h3 : dx ≠ p) (r : Rps K (XA X A) H vs (args x)) (hp : pre x)
    (k : ∀ v H', Tr A H A H' → St K X A M Γ σ H' → RD K X A H' v (.v (.ins C ks (res x))) → Q v H') : MF K C args pre ks res (.ref p :: vs) (upd (upd H dx (.own p)) p (.ins C dx [])) (fun v H2 => v = .non ∧ Q (.ref p) H2) E := by
  have hx : ¬ XA X A p := fun z => by
    obtain ⟨o, e⟩ := s.ce.xa p z
    rw [h1] at e
    cases e
  have sm1 : Same H (upd H dx (.own p)) := same_new h2
  have hp2 : (upd H dx (.own p)) p = none := by rw [upd_ne (Ne.symm h3)]; exact h1
  have sm2 : Same H (upd (upd H dx (.own p)) p (.ins C dx [])) := fun a o e => same_new hp2 a o (sm1 a o e)
  have r2 : Rps K (X1 (XA X A) p) (upd (upd H dx (.own p)) p (.ins C dx [])) vs (args x) := r.mono (fun a o e n => sm2 a o e) fun a o e n z => by
    rcases z with z | z
    · exact n z
    · rw [show a = p from z] at e
      rw [h1] at e
      cases e
  refine ⟨XA X A, p, dx, vs, x, rfl, hx, upd_same, fun b hb => ?_, r2, hp, fun H' dx' ws hk he hl rw' => ⟨rfl, ?_⟩⟩
  · obtain ⟨o, e⟩ := s.ce.xa b hb
    exact ⟨o, sm2 b o e⟩
  · have sm : Same H H' := fun a o e => hk a o (sm2 a o e) fun z => by
      rw [z] at e
      rw [h1] at e
      cases e
    exact k _ H' (.ofSame sm) (s.same sm) (.v (.ins he hx hl (rw'.less fun a z => .inl z)))
theorem ep_make (h : EPs K t Γ M ps) (x : α) (ex : ps = args x) (hp : pre x) : EP K (tMake C (MF K C args pre ks res) [] E t) Γ M (.ins C ks (res x)) := fun X A σ H s Q q =>
  h X A σ H s _ fun A1 M1 vs ds H1 t1 s1 r ⟨e1, e2⟩ => by
    subst e1 e2 ex
    intro p dx h1 h2 h3
    rw [List.append_nil]
    exact made s1 h1 h2 h3 r.toRps hp fun v H' t2 s2 rv => q A1 _ v _ H' (t1.trans t2) s2 rv ⟨rfl, rfl⟩
theorem perm_succ {β : Type} (r : List Nat) (v : β) (vs : List β) : perm (r.map (· + 1)) (v :: vs) = perm r vs := by
  unfold perm
  rw [List.filterMap_map]
  rfl
theorem perm_zero {β : Type} (r : List Nat) (v : β) (vs : List β) : perm (0 :: r.map (· + 1)) (v :: vs) = v :: perm r vs := by
  rw [← perm_succ r v vs]
  rfl
theorem ep_makeK {m : Nat} {ix : List Nat} (hk : EPs K tk Γ M qs) (l2 : qs.length = m) (x : α) (ex : perm ix qs = args x) (hp : pre x) :
    EP K (tMakeK C 0 m (MF K C args pre ks res) (fun vs zs => perm (0 :: ix.map (· + 1)) (vs ++ zs)) E tNil tk) Γ M (.ins C ks (res x)) := fun X A σ H s Q q => by
  refine hk X A σ H s _ fun A1 M1 zs ds H1 t1 s1 r ⟨e1, e2⟩ => ?_
  subst e1 e2
  have r4 := r.toRps
  refine ⟨rfl, by rw [Rps.length r4, l2], fun p dx h1 h2 h3 => ?_⟩
  have e : perm (0 :: ix.map (· + 1)) ([V.ref p] ++ zs) = .ref p :: perm ix zs := perm_zero ix _ _
  have r5 : Rps K (XA X A1) H1 (perm ix zs) (args x) := by rw [← ex]; exact r4.perm ix
  show MF K C args pre ks res (perm (0 :: ix.map (· + 1)) ([V.ref p] ++ zs)) _ _ _
  rw [e]
  exact made s1 h1 h2 h3 r5 hp fun v H' t2 s2 rv => q A1 _ v _ H' (t1.trans t2) s2 rv ⟨rfl, rfl⟩
theorem putF_new {f : Str} {y : V} : ∀ {ks : List Str} {vs : List V}, f ∉ ks → ks.length = vs.length → putF f y (ks.zip vs) = (ks ++ [f]).zip (vs ++ [y])
  | [], [], _, _ => rfl
  | k :: ks, v :: vs, h, hl => by
    have h1 : ¬ k = f := fun z => h (z ▸ List.mem_cons_self ..)
    have ih := putF_new (f := f) (y := y) (ks := ks) (vs := vs) (fun z => h (List.mem_cons_of_mem _ z)) (by simpa using hl)
    show putF f y ((k, v) :: ks.zip vs) = _
    rw [putF, if_neg h1, ih]
    rfl
  | [], _ :: _, _, hl => by simp at hl
  | _ :: _, [], _, hl => by simp at hl
end
section
variable {K : PySem.W.Frag} {n : Nat} {Γ : Env} {M : Mem} {E : DE} {ta tv : TE} {f : Str}
/-- self.f = e, f a new attribute -/
theorem sv_fldN (h : EV K tv Γ M fun M1 d => EV K ta Γ M1 fun M2 e => ∃ k C ks ds, e = .c k ∧ M2[k]? = some (.o C ks ds) ∧ Cls K C ∧ NoAttr K C f ∧ ks.length < 1000 ∧ f ∉ ks ∧ E.nx Γ (M2.set k (.o C (ks ++ [f]) (ds ++ [d])))) : SV K n (sFld K ta tv f) Γ M E := fun X A0 H0 l A σ H Dd tr s z =>
  h X A σ H s _ fun A1 M1 y d H1 t1 s1 ry h2 => h2 X A1 σ H1 s1 _ fun A2 M2 x e H2 t2 s2 rx ⟨k, C, ks, ds, e1, em, hc, hn, hl, hf, hE⟩ => by
    subst e1
    cases rx with
    | c ek =>
      rename_i a
      obtain ⟨dx, vs, hx, hlen, rv⟩ := s2.ce.at_ k a _ ek em
      refine ⟨a, C, dx, ks.zip vs, rfl, hx, hc, hn, by rw [List.length_zip]; omega, ?_⟩
      rw [putF_new hf hlen]
      have tp : Tr A2 H2 A2 (upd H2 a (.ins C dx ((ks ++ [f]).zip (vs ++ [y])))) := ⟨⟨[], by simp, by simp⟩, fun b u q n => by
        rw [upd_ne (show b ≠ a from fun z => n (by rw [z]; exact List.mem_of_getElem? ek))]
        exact q, fun b u q => by
        by_cases h : b = a
        · rw [h]; exact ⟨_, upd_same⟩
        · rw [upd_ne h]; exact ⟨u, q⟩⟩
      obtain ⟨t3, s3⟩ := s2.put (c := .o C (ks ++ [f]) (ds ++ [d])) ek ⟨dx, vs ++ [y], upd_same, by simp [hlen], tp.rds (rv.append (.cons (t2.rd ry) .nil))⟩
      exact z.nx A2 _ Γ σ _ (((tr.trans t1).trans t2).trans t3) s3 hE
end
section
variable {K : PySem.W.Frag} {C : Addr} {α : Type} {args : α → List P} {pre : α → Prop} {ks : List Str} {res : α → List P} {t : TS} {N : List Str}
/-- __init__ keeps such a promise, by its body -/
theorem mf_body {x : α} (h : SV K 1 t (startE N.length (.c 0 :: (args x).map .v)) [.o C [] []] { nx := fun _ M => ∃ M', M = .o C ks ((res x).map .v) :: M', rt := fun _ _ => False }) {X : Addr → Prop} {a dx : Addr} {vs : List V} {H : Hp} {Q : VK}
    (ha : H a = some (.ins C dx [])) (hX : ¬ X a) (hx : ∀ b, X b → ∃ o, H b = some o) (r : Rps K (X1 X a) H vs (args x))
    (q : ∀ H' dx' ws, (∀ b o, H b = some o → b ≠ a → H' b = some o) → H' a = some (.ins C dx' (ks.zip ws)) → ks.length = ws.length → Rps K (X1 X a) H' ws (res x) → Q .non H') :
    t { nx := fun _ H' => Q .non H', rt := Q } (L2.start N (.ref a :: vs)) H := by
  have c0 : Cells K X [a] [.o C [] []] H := ⟨List.nodup_cons.mpr ⟨by simp, List.nodup_nil⟩, rfl, fun k b c e1 e2 => by
    have hk : k = 0 := by
      have := (List.getElem?_eq_some_iff.mp e1).1
      rw [List.length_singleton] at this
      omega
    subst hk
    cases e1
    cases e2
    exact ⟨dx, [], ha, rfl, .nil⟩, hx, fun b hb h => hX (by rw [← List.mem_singleton.mp h]; exact hb)⟩
  have xe : ∀ b, XA X [a] b ↔ X1 X a b := fun b => by
    constructor
    · rintro (z | z)
      · exact .inl z
      · exact .inr (List.mem_singleton.mp z)
    · rintro (z | z)
      · exact .inl z
      · exact .inr (List.mem_singleton.mpr z)
  have r0 : RDs K X [a] H (.ref a :: vs) (.c 0 :: (args x).map .v) := .cons (.c rfl) (.ofRps (r.less fun b z => (xe b).mp z))
  refine h X [a] H rfl [a] (L2.start N (.ref a :: vs)) H _ .refl ⟨c0, sl_start r0⟩ ⟨fun A M Γ σ H' t1 s1 ⟨M', eM⟩ => ?_, fun A M Γ σ H' v d t1 s1 r1 e => e.elim, fun A M Γ σ H' t1 s1 e => e.elim, fun A M Γ σ H' t1 s1 e => e.elim⟩
  obtain ⟨B, eA, fB⟩ := t1.ext
  subst eA eM
  obtain ⟨dx', ws, e1, e2, e3⟩ := s1.ce.at_ 0 a _ rfl rfl
  refine q H' dx' ws (fun b o e n => t1.keep b o e fun z => n (List.mem_singleton.mp z)) e1 e2 (e3.toRps.less fun b z => ?_)
  rcases z with z | z
  · exact .inl z
  · exact .inr (List.mem_append_left _ (List.mem_singleton.mpr z))
end

/-! ### promises that give cells -/
mutual
def shD (n : Nat) : D → D
  | .v p => .v p
  | .c k => .c (n + k)
  | .t ds => .t (shDs n ds)
def shDs (n : Nat) : List D → List D
  | [] => []
  | d :: ds => shD n d :: shDs n ds
end
theorem shDs_map (n : Nat) : ∀ ds : List D, shDs n ds = ds.map (shD n)
  | [] => rfl
  | d :: ds => by rw [List.map_cons, ← shDs_map n ds]; rfl
def shC (n : Nat) : MC → MC
  | .l ds => .l (ds.map (shD n))
  | .o C ks ds => .o C ks (ds.map (shD n))
  | .d ks ds => .d ks (ds.map (shD n))
  | .t ks ds => .t ks (ds.map (shD n))
  | .f u ks ds => .f u ks (ds.map (shD n))
/-- data in; out comes a value over new cells -/
def PC (K : PySem.W.Frag) {α : Type} (args : α → List P) (pre : α → Prop) (res : α → List MC → D → Prop) : Sp := fun vs H Q _ =>
  ∃ (X : Addr → Prop) (x : α), (∀ a, X a → ∃ o, H a = some o) ∧ Rps K X H vs (args x) ∧ pre x ∧ ∀ v B cs d H', Same H H' → (∀ b ∈ B, H b = none) → Cells K X B cs H' → RD K X B H' v d → res x cs d → Q v H'
section
variable {K : PySem.W.Frag} {α : Type} {args : α → List P} {pre : α → Prop} {res : α → List MC → D → Prop} {Γ : Env} {M : Mem} {Φ : Mem → D → Prop} {t tk : TA} {E : XK} {ps qs : List P}
mutual
theorem RD.sh {X : Addr → Prop} {A B : List Addr} {H : Hp} : ∀ {v : V} {d : D}, RD K (XA X A) B H v d → RD K X (A ++ B) H v (shD A.length d)
  | _, _, .v r => by
    refine .v (r.less fun a z => ?_)
    rcases z with z | z
    · exact .inl (.inl z)
    · rcases List.mem_append.mp z with z | z
      · exact .inl (.inr z)
      · exact .inr z
  | _, _, .c e => by
    refine .c ?_
    rw [List.getElem?_append_right (Nat.le_add_right _ _), Nat.add_sub_cancel_left]
    exact e
  | _, _, .t h n r => by
    refine .t h (fun z => n ?_) (by rw [shDs_map]; exact RDs.sh r)
    rcases z with z | z
    · exact .inl (.inl z)
    · rcases List.mem_append.mp z with z | z
      · exact .inl (.inr z)
      · exact .inr z
theorem RDs.sh {X : Addr → Prop} {A B : List Addr} {H : Hp} : ∀ {v : List V} {d : List D}, RDs K (XA X A) B H v d → RDs K X (A ++ B) H v (d.map (shD A.length))
  | _, _, .nil => .nil
  | _, _, .cons h r => .cons (RD.sh h) (RDs.sh r)
end
theorem more_cells {X : Addr → Prop} {A B : List Addr} {H H' : Hp} {σ : L2.St} {cs : List MC} (s : St K X A M Γ σ H) (sm : Same H H') (hb : ∀ b ∈ B, H b = none) (c : Cells K (XA X A) B cs H') :
    Tr A H (A ++ B) H' ∧ St K X (A ++ B) (M ++ cs.map (shC A.length)) Γ σ H' := by
  have t : Tr A H (A ++ B) H' := ⟨⟨B, rfl, hb⟩, fun a o e _ => sm a o e, fun a o e => ⟨o, sm a o e⟩⟩
  refine ⟨t, ⟨List.nodup_append.mpr ⟨s.ce.nd, c.nd, fun a ha b hb' e => c.dj a (.inr ha) (e ▸ hb')⟩, by simp [s.ce.len, c.len], fun k a m e1 e2 => ?_, fun a z => ?_, fun a z h => ?_⟩, t.sl s.sl⟩
  · by_cases hk : k < A.length
    · rw [List.getElem?_append_left hk] at e1
      rw [List.getElem?_append_left (by rw [← s.ce.len]; exact hk)] at e2
      exact (s.ce.at_ k a m e1 e2).tr t fun o e => sm a o e
    · rw [List.getElem?_append_right (by omega)] at e1
      rw [List.getElem?_append_right (by rw [← s.ce.len]; omega), ← s.ce.len, List.getElem?_map] at e2
      cases e3 : cs[k - A.length]? with
      | none => rw [e3] at e2; cases e2
      | some m0 =>
        rw [e3] at e2
        have e4 : shC A.length m0 = m := Option.some.inj e2
        subst e4
        have h := c.at_ (k - A.length) a m0 e1 e3
        cases m0 with
        | l ds => obtain ⟨xs, h1, h2⟩ := h; exact ⟨xs, h1, h2.sh⟩
        | o C ks ds => obtain ⟨dx, xs, h1, h2, h3⟩ := h; exact ⟨dx, xs, h1, h2, h3.sh⟩
        | d ks ds => obtain ⟨xs, h1, h2, h3⟩ := h; exact ⟨xs, h1, h2, h3.sh⟩
        | t ks ds => obtain ⟨xs, h1, h2, h3⟩ := h; exact ⟨xs, h1, h2, h3.sh⟩
        | f u ks ds => obtain ⟨xs, h1, h2, h3⟩ := h; exact ⟨xs, h1, h2, h3.sh⟩
  · obtain ⟨o, e⟩ := s.ce.xs a z
    exact ⟨o, sm a o e⟩
  · rcases List.mem_append.mp h with h | h
    · exact s.ce.dj a z h
    · exact c.dj a (.inl z) h
theorem ev_callC (h : EA K t Γ M fun M1 ds => ∃ x, ds = (args x).map .v ∧ pre x ∧ ∀ cs d, res x cs d → Φ (M1 ++ cs.map (shC M1.length)) (shD M1.length d)) : EV K (tCall (PC K args pre res) [] E t) Γ M Φ := fun X A σ H s Q q =>
  h X A σ H s _ fun A1 M1 vs ds H1 t1 s1 r ⟨x, ed, hp, f⟩ => by
    subst ed
    refine ⟨XA X A1, x, s1.ce.xa, by rw [List.append_nil]; exact r.toRps, hp, fun v B cs d H' sm hb c rv hr => ?_⟩
    obtain ⟨t2, s2⟩ := more_cells s1 sm hb c
    have f2 := f cs d hr
    rw [← s1.ce.len] at f2
    exact q _ _ v _ H' (t1.trans t2) s2 rv.sh f2
theorem ev_callNC {n m : Nat} {ix : List Nat} (h : EA K t Γ M fun M1 ds => EA K tk Γ M1 fun M2 es => ∃ ps qs x, ds = ps.map .v ∧ es = qs.map .v ∧ ps.length = n ∧ qs.length = m ∧ perm ix (ps ++ qs) = args x ∧ pre x ∧ ∀ cs d, res x cs d → Φ (M2 ++ cs.map (shC M2.length)) (shD M2.length d)) :
    EV K (tCallN n m (PC K args pre res) (fun vs zs => perm ix (vs ++ zs)) E t tk) Γ M Φ := fun X A σ H s Q q =>
  h X A σ H s _ fun A1 M1 vs ds H1 t1 s1 r h2 => h2 X A1 σ H1 s1 _ fun A2 M2 zs es H2 t2 s2 r2 ⟨ps, qs, x, e1, e2, l1, l2, ex, hp, f⟩ => by
    subst e1 e2
    have r3 := (t2.rds r).toRps
    have r4 := r2.toRps
    refine ⟨by rw [Rps.length r3, l1], by rw [Rps.length r4, l2], XA X A2, x, s2.ce.xa, by rw [← ex]; exact (Rps.append r3 r4).perm ix, hp, fun v B cs d H' sm hb c rv hr => ?_⟩
    obtain ⟨t3, s3⟩ := more_cells s2 sm hb c
    have f2 := f cs d hr
    rw [← s2.ce.len] at f2
    exact q _ _ v _ H' ((t1.trans t2).trans t3) s3 rv.sh f2
end
theorem pc_body {K : PySem.W.Frag} {α : Type} {args : α → List P} {res : α → List MC → D → Prop} {t : TS} {N : List Str} {x : α}
    (h : SV K 0 t (startE N.length ((args x).map .v)) [] { nx := fun _ _ => False, rt := fun M d => res x M d }) {X : Addr → Prop} {vs : List V} {H : Hp} {Q : VK}
    (hx : ∀ a, X a → ∃ o, H a = some o) (r : Rps K X H vs (args x)) (q : ∀ v B cs d H', Same H H' → (∀ b ∈ B, H b = none) → Cells K X B cs H' → RD K X B H' v d → res x cs d → Q v H') : t { nx := fun _ H' => Q .non H', rt := Q } (L2.start N vs) H := by
  have c0 : Cells K X [] [] H := ⟨List.nodup_nil, rfl, fun k a c e _ => by simp at e, hx, fun a _ h => by simp at h⟩
  have r0 : RDs K X [] H vs ((args x).map .v) := .ofRps (r.less fun a z => z.elim id fun z => by simp at z)
  refine h X [] H rfl [] (L2.start N vs) H _ .refl ⟨c0, sl_start r0⟩ ⟨fun A M Γ σ H' t1 s1 e => e.elim, fun A M Γ σ H' v d t1 s1 r1 hr => ?_, fun A M Γ σ H' t1 s1 e => e.elim, fun A M Γ σ H' t1 s1 e => e.elim⟩
  obtain ⟨B, eA, fB⟩ := t1.ext
  rw [List.nil_append] at eA
  subst eA
  exact q v A M d H' (fun a o e => t1.keep a o e (by simp)) fB s1.ce r1 hr
end Z
set_option maxRecDepth 100000
set_option maxHeartbeats 4000000
/-! == and != by an own __eq__. -/
namespace Z
open PySem PySem.Spec PyProof.Rows L2
section
variable {prog : Program} {w : World} {A : Around} {E : Value → Shared → Prop} {s : Shared} {K : PySem.W.Frag} {x C f : Addr} {ox : Obj} {od : Option Obj} {y : Value}
theorem ne_entry (X : K.In s.heap) (I : PySem.W.InstAt s.heap x ox C od) (hs : PySem.W.findIn K (.ref C) "__eq__" = some (some (.ref f))) (hf : PySem.W.isFn K (.ref f) = true) (hu : A.units < cLine) {Q : Fin → Shared → Prop}
    (hcall : wpAny (model prog w) A (call (.ref f) [.ref x, y]) (fun v s' => ∃ b, v = .bool b ∧ Q (.done (.ret (.bool (!b)))) s') E s) :
    wpAny (model prog w) A (Builtin.«object.__ne__» ⟨[.ref x, y], []⟩) Q E s := by
  unfold Builtin.«object.__ne__»
  repeat (first
    | with_reducible refine wpAny_cRoomFor hu ?_
    | (refine wpAny_bind (m := callSpecialIfBound? (.ref x) (Str.ofString "__eq__") [y])
        (PySem.W.ifBound_K X I hs hf (wpAny_mono hcall (fun v s' hr => by
          obtain ⟨b, rfl, hq⟩ := hr
          repeat (first | exact hq | exact wpAny_pure hq | exact wpAny_truthy_bool hq | (refine wpAny_bind (m := truthy (.bool _)) (wpAny_truthy_bool ?_)) | wp_step)) fun _ _ e => e)))
    | wp_step)
theorem slotNe : Slot "object" "__ne__" "object.__ne__" :=
  .of (owner := "object") (n := "__ne__") (by rw [typeLookup_type, builtinLookup_eq_fast]; kernel_rfl) (by decide +kernel) (by decide +kernel) (by decide +kernel) (.inl (by decide +kernel)) (by rw [isSubtype_type]; kernel_rfl)
theorem try_ne (X : K.In s.heap) (I : PySem.W.InstAt s.heap x ox C od) (hs : PySem.W.findIn K (.ref C) "__eq__" = some (some (.ref f))) (hf : PySem.W.isFn K (.ref f) = true) (hn : PySem.W.findIn K (.ref C) "__ne__" = some (some (.builtin "object.__ne__")))
    (ho : PySem.W.subIn K (.ref C) (.type "object") = some true) (hu : A.units + 1 < cLine) {Q : Option Value → Shared → Prop}
    (hcall : wpAny (model prog w) A.in1 (call (.ref f) [.ref x, y]) (fun v s' => ∃ b, v = .bool b ∧ Q (some (.bool (!b))) s') E s) :
    wpAny (model prog w) A (tryCompare (.ref x) "__ne__" y) Q E s := by
  simp only [tryCompare]
  refine wpAny_bind ?_
  simp only [callSpecialIfBound?, bindSpecialIfBound?]
  refine wpAny_holding (wpAny_bind (wpAny_bind (wpAny_bind (I.type.here ((PySem.W.looks_findIn X hn).here ?_)))))
  simp only [slotNe.bind]
  refine wpAny_bind (wpAny_askSetting (wpAny_ite ?_))
  have kk : wpAny (model prog w) A (call (.builtin "object.__ne__") ([.ref x] ++ [y])) (fun v s' => ∃ b, v = .bool b ∧ Q (some (.bool b)) s') E s := by
    refine wpAny_call (codeAny_call_builtin slotNe.plain F.cmpEntry_ne (PySem.W.check_slot F.cmpKind_ne F.cmpSplit_ne (I.type.andThen (PySem.W.looks_subIn X ho)) (F.cmpArgs_ne _ _) ?_))
    exact ne_entry (A := A.in1) X I hs hf hu (wpAny_mono hcall (fun v s' ⟨b, e, q⟩ => ⟨b, e, ⟨!b, rfl, q⟩⟩) fun _ _ e => e)
  have fin : wpAny (model prog w) A (call (.builtin "object.__ne__") ([.ref x] ++ [y]) >>= fun v => pure (some v)) (fun r s' => ∃ b, r = some (.bool b) ∧ Q (some (.bool b)) s') E s :=
    wpAny_bind (wpAny_mono kk (fun v s' ⟨b, e, q⟩ => by subst e; exact wpAny_pure ⟨b, rfl, q⟩) fun _ _ h' => h')
  have fin2 : ∀ {α : Type} (k : Option Value → Sem α) (Q2 : α → Shared → Prop), (∀ b s', Q (some (.bool b)) s' → wpAny (model prog w) A (k (some (.bool b))) Q2 E s') →
      wpAny (model prog w) A ((call (.builtin "object.__ne__") ([.ref x] ++ [y]) >>= fun v => pure (some v)) >>= k) Q2 E s := fun k Q2 h =>
    wpAny_bind (wpAny_mono fin (fun v s' ⟨b, e, q⟩ => by subst e; exact h b s' q) fun _ _ h' => h')
  split
  · refine wpAny_bind (wpAny_pure (wpAny_pure ?_))
    refine wpAny_mono fin (fun r s' ⟨b, e, q⟩ => ?_) fun _ _ h' => h'
    subst e
    exact wpAny_pure q
  · refine wpAny_tryCatch (wpAny_bind (wpAny_pure (wpAny_pure ?_)))
    refine wpAny_mono fin (fun r s' ⟨b, e, q⟩ => ?_) fun _ _ h' => h'
    subst e
    exact wpAny_pure q
theorem rich_ne {L : Addr} {h₀ : Heap} {m : Str → Option Value} {tb : Value} (X : K.In s.heap) (I : PySem.W.InstAt s.heap x ox C od) (hb : PySem.W.Looks (model prog w) s.heap (typeOf y) tb) (hnf : PySem.W.notFirst K C tb = true)
    (hs : PySem.W.findIn K (.ref C) "__eq__" = some (some (.ref f))) (hf : PySem.W.isFn K (.ref f) = true) (hn : PySem.W.findIn K (.ref C) "__ne__" = some (some (.builtin "object.__ne__")))
    (ho : PySem.W.subIn K (.ref C) (.type "object") = some true) (hu : A.units + 1 < cLine) {Q : Value → Shared → Prop}
    (hcall : wpAny (model prog w) A.in1 (call (.ref f) [.ref x, y]) (fun v s' => ∃ b, v = .bool b ∧ Q (.bool (!b)) s') E s) :
    wpAny (model prog w) A (richCompare .NotEq (.ref x) y) Q E s := by
  have one : wpAny (model prog w) A (tryCompare (.ref x) "__ne__" y) (fun r s' => ∃ v, r = some v ∧ Q v s') E s :=
    try_ne X I hs hf hn ho hu (wpAny_mono hcall (fun v s' ⟨b, e, q⟩ => ⟨b, e, _, rfl, q⟩) fun _ _ e => e)
  unfold richCompare
  simp only [oneThing_ref]
  refine wpAny_holding (wpAny_bind (wpAny_cRoomFor (Nat.lt_of_succ_lt hu) ?_))
  refine wpAny_bind (I.type.here (wpAny_bind (hb.here ?_)))
  rw [cmpInfo_NotEq]
  dsimp only
  split
  · rename_i q
    have e : PySem.W.subIn K tb (.ref C) = some false := by
      rcases Bool.or_eq_true_iff.mp hnf with e | e
      · rw [beq_iff_eq.mp e] at q; simp at q
      · exact beq_iff_eq.mp e
    refine wpAny_bind ((PySem.W.looks_subIn X e).here ?_)
    simp only [Bool.false_eq_true, if_false]
    refine wpAny_bind (wpAny_mono one (fun r s' z => ?_) fun _ _ e => e)
    obtain ⟨v, rfl, hq⟩ := z
    exact wpAny_pure hq
  · refine wpAny_bind (wpAny_pure ?_)
    simp only [Bool.false_eq_true, if_false]
    refine wpAny_bind (wpAny_mono one (fun r s' z => ?_) fun _ _ e => e)
    obtain ⟨v, rfl, hq⟩ := z
    exact wpAny_pure hq
end

structure EqC (K : PySem.W.Frag) (C f : Addr) : Prop where
  eq : PySem.W.findIn K (.ref C) "__eq__" = some (some (.ref f))
  fn : PySem.W.isFn K (.ref f) = true
  ne : PySem.W.findIn K (.ref C) "__ne__" = some (some (.builtin "object.__ne__"))
  ob : PySem.W.subIn K (.ref C) (.type "object") = some true
def rEqO (K : PySem.W.Frag) (C : Addr) (sp : Sp) : R2 := fun x y H Q => ∃ a dx fs t, x = .ref a ∧ H a = some (.ins C dx fs) ∧ TyX K H y t ∧ PySem.W.notFirst K C t = true ∧ sp [x, y] H Q E0
def rNeO (K : PySem.W.Frag) (C : Addr) (sp : Sp) : R2 := fun x y H Q => ∃ a dx fs t, x = .ref a ∧ H a = some (.ins C dx fs) ∧ TyX K H y t ∧ PySem.W.notFirst K C t = true ∧ sp [x, y] H (fun v H' => ∃ b, v = .bl b ∧ Q (.bl (!b)) H') E0
section
variable {X : Cx} {C f : Addr} {k : Nat} {fd : FuncData} {ps : List Str} {sp : Sp} {pins : List (Addr × Obj)} {σ : L2.St} {H : Hp} {s : Shared}
theorem run_own {A : Around} {Q : VK} {us : List Value} {vs : List V} (F : FnOk X.prog X.w X.K X.mg X.base CX0 k f fd ps sp) (hr : Room k A) (hb : Binds X.K fd ps []) (e0 : Env0 X.prog X.w X.K X.mg X.base A X.stack s H)
    (I : Inv X pins σ H s) (r : Vals vs us) (h : sp vs H Q E0) : wpAny (model X.prog X.w) A (call (.ref f) us) (L2.EP X pins σ Q) X.xe s := by
  have hl : us.length = ps.length := by rw [← r.length]; exact F.len _ _ _ _ h
  refine wpAny_call (codeAny_mono (F.run A X.stack s H ⟨us, []⟩ us vs Q E0 hr e0 (by
    have := hb s us I.kIn (by simpa using hl)
    simpa using this) r h) fun r s' hq => ?_)
  cases r with
  | error e => exact hq.elim
  | ok fl =>
    cases fl with
    | ret u => exact I.after hq
    | next => exact False.elim hq
    | brk => exact False.elim hq
    | cont => exact False.elim hq
theorem op_eqO (c : EqC X.K C f) (F : FnOk X.prog X.w X.K X.mg X.base CX0 k f fd ps sp) (hr : Room k X.A) (hb : Binds X.K fd ps []) : OpR X (compareOp .Eq) (rEqO X.K C sp) := by
  intro pins s σ H x y v u Q I rx ry h
  obtain ⟨a, dx, fs, t, rfl, ha, ty, hn, q⟩ := h
  cases (show v = Value.ref a from rx)
  obtain ⟨mA, J, _⟩ := ins_get I.hok ha
  obtain ⟨od, J, _⟩ := J.look
  obtain ⟨m, hF⟩ := I.fr
  obtain ⟨P, kx, hP, _⟩ := kit_of I ry ty
  refine PySem.W.cmp_K (op := .Eq) (tb := t) hr.units0 hF I.ok.mod.kin J (kx.ty _ _ I.kIn hP) hn c.eq c.fn ?_
  refine wpAny_mono (run_own F hr hb I.env0 I (.cons (show RelV (.ref a) (.ref a) from rfl) (.cons ry .nil)) q) (fun w s' z => ?_) fun _ _ x => x
  obtain ⟨z', H', I', rz, qz⟩ := z
  exact SlX.cmpback rz ⟨z', H', I', rz, qz⟩
theorem op_neO (c : EqC X.K C f) (F : FnOk X.prog X.w X.K X.mg X.base CX0 k f fd ps sp) (hr : Room (k + 1) X.A) (hb : Binds X.K fd ps []) : OpR X (compareOp .NotEq) (rNeO X.K C sp) := by
  intro pins s σ H x y v u Q I rx ry h
  obtain ⟨a, dx, fs, t, rfl, ha, ty, hn, q⟩ := h
  cases (show v = Value.ref a from rx)
  obtain ⟨mA, J, _⟩ := ins_get I.hok ha
  obtain ⟨od, J, _⟩ := J.look
  obtain ⟨P, kx, hP, _⟩ := kit_of I ry ty
  show wpAny _ _ (richCompare .NotEq _ _) _ _ _
  refine rich_ne (L := 0) (h₀ := s.heap) (m := fun _ => none) (tb := t) I.kIn J (kx.ty _ _ I.kIn hP) hn c.eq c.fn c.ne c.ob (hu_of hr) ?_
  refine wpAny_mono (run_own F hr.in1 hb I.env0.in1 I (.cons (show RelV (.ref a) (.ref a) from rfl) (.cons ry .nil)) q) (fun w s' z => ?_) fun _ _ x => x
  obtain ⟨z', H', I', rz, b, eb, qz⟩ := z
  subst eb
  cases rz
  exact ⟨b, rfl, .bl (!b), H', I', rfl, qz⟩
end
section
variable {K : PySem.W.Frag} {p q z : P} {r r' : R2}
theorem rv_l (h : RV K r p q z) : RV K (fun x y H Q => r x y H Q ∨ r' x y H Q) p q z := fun X H x y hx r1 r2 Q k => .inl (h X H x y hx r1 r2 Q k)
theorem rv_r (h : RV K r' p q z) : RV K (fun x y H Q => r x y H Q ∨ r' x y H Q) p q z := fun X H x y hx r1 r2 Q k => .inr (h X H x y hx r1 r2 Q k)
theorem insOf {X : Addr → Prop} {H : Hp} {v : V} {C : Addr} {ks : List Str} {ds : List P} (h : Rp K X H v (.ins C ks ds)) : ∃ a dx fs, v = .ref a ∧ H a = some (.ins C dx fs) := by
  cases h with
  | ins h _ _ _ => exact ⟨_, _, _, rfl, h⟩
theorem rv_eqO {α : Type} {args : α → List P} {pre : α → Prop} {res : α → P → Prop} {C : Addr} {ks : List Str} {ds : List P} {b : Bool} (hc : ∀ D, isInsP q = some D → ClsI K D) (hn : PySem.W.notFirst K C (tyP q) = true) (x : α)
    (ex : args x = [.ins C ks ds, q]) (hp : pre x) (hr : ∀ p, res x p → p = .bl b) : RV K (rEqO K C (PF K args pre res)) (.ins C ks ds) q (.bl b) := fun X H v w hx r1 r2 Q k => by
  obtain ⟨a, dx, fs, e, ha⟩ := insOf r1
  exact ⟨a, dx, fs, _, e, ha, tyX_of hc r2, hn, X, x, hx, by rw [ex]; exact .cons r1 (.cons r2 .nil), hp, fun v p H' sm rp hh => by rw [hr p hh] at rp; exact k v H' sm rp⟩
theorem rv_neO {α : Type} {args : α → List P} {pre : α → Prop} {res : α → P → Prop} {C : Addr} {ks : List Str} {ds : List P} {b : Bool} (hc : ∀ D, isInsP q = some D → ClsI K D) (hn : PySem.W.notFirst K C (tyP q) = true) (x : α)
    (ex : args x = [.ins C ks ds, q]) (hp : pre x) (hr : ∀ p, res x p → p = .bl b) : RV K (rNeO K C (PF K args pre res)) (.ins C ks ds) q (.bl (!b)) := fun X H v w hx r1 r2 Q k => by
  obtain ⟨a, dx, fs, e, ha⟩ := insOf r1
  refine ⟨a, dx, fs, _, e, ha, tyX_of hc r2, hn, X, x, hx, by rw [ex]; exact .cons r1 (.cons r2 .nil), hp, fun v p H' sm rp hh => ?_⟩
  rw [hr p hh] at rp
  cases rp
  exact ⟨b, rfl, k _ H' sm (.bl _)⟩
end

/-! ### callees in bundles -/
structure Cal (P : Program) (w : World) (K : PySem.W.Frag) (mg : Str → Option Value) (base : Heap) (k : Nat) (x : Str) (ps : List Str) (sp : Sp) : Prop where
  ex : ∃ (f : Addr) (fd : FuncData), FnOk P w K mg base CX0 k f fd ps sp ∧ mg x = some (.ref f) ∧ PySem.W.keepIn K (.ref f) = true ∧ Binds K fd ps []
structure CalN (P : Program) (w : World) (K : PySem.W.Frag) (mg : Str → Option Value) (base : Heap) (k : Nat) (x : Str) (n : Nat) (ks : List Str) (ix : List Nat) (sp : Sp) : Prop where
  ex : ∃ (f : Addr) (fd : FuncData) (ps : List Str), FnOk P w K mg base CX0 k f fd ps sp ∧ mg x = some (.ref f) ∧ PySem.W.keepIn K (.ref f) = true ∧ KBn K fd ps n ks (fun us ws => perm ix (us ++ ws)) (fun vs zs => perm ix (vs ++ zs))
/-- C(..) -/
structure CalM (P : Program) (w : World) (K : PySem.W.Frag) (mg : Str → Option Value) (base : Heap) (k : Nat) (x : Str) (C : Addr) (sp : Sp) : Prop where
  ex : ∃ (f : Addr) (fd : FuncData) (ps : List Str), Mk K C f ∧ FnOk P w K mg base CX0 k f fd ps sp ∧ mg x = some (.ref C) ∧ Binds K fd ps []
structure CalMN (P : Program) (w : World) (K : PySem.W.Frag) (mg : Str → Option Value) (base : Heap) (k : Nat) (x : Str) (C : Addr) (ks : List Str) (ix : List Nat) (sp : Sp) : Prop where
  ex : ∃ (f : Addr) (fd : FuncData) (ps : List Str), Mk K C f ∧ FnOk P w K mg base CX0 k f fd ps sp ∧ mg x = some (.ref C) ∧ KBn K fd ps 1 ks (fun us ws => perm ix (us ++ ws)) (fun vs zs => perm ix (vs ++ zs))
/-- own == -/
structure CalE (P : Program) (w : World) (K : PySem.W.Frag) (mg : Str → Option Value) (base : Heap) (k : Nat) (C : Addr) (sp : Sp) : Prop where
  ex : ∃ (f : Addr) (fd : FuncData) (ps : List Str), EqC K C f ∧ FnOk P w K mg base CX0 k f fd ps sp ∧ Binds K fd ps []
section
variable {P : Program} {w : World} {K : PySem.W.Frag} {mg : Str → Option Value} {base : Heap} {j k n : Nat} {x : Str} {ps ks : List Str} {ix : List Nat} {sp : Sp} {C : Addr}
theorem Cal.mono (c : Cal P w K mg base j x ps sp) (h : j ≤ k) : Cal P w K mg base k x ps sp := ⟨let ⟨f, fd, a, b⟩ := c.ex; ⟨f, fd, a.mono h, b⟩⟩
theorem CalN.mono (c : CalN P w K mg base j x n ks ix sp) (h : j ≤ k) : CalN P w K mg base k x n ks ix sp := ⟨let ⟨f, fd, ps, a, b⟩ := c.ex; ⟨f, fd, ps, a.mono h, b⟩⟩
theorem CalM.mono (c : CalM P w K mg base j x C sp) (h : j ≤ k) : CalM P w K mg base k x C sp := ⟨let ⟨f, fd, ps, m, a, b⟩ := c.ex; ⟨f, fd, ps, m, a.mono h, b⟩⟩
theorem CalMN.mono (c : CalMN P w K mg base j x C ks ix sp) (h : j ≤ k) : CalMN P w K mg base k x C ks ix sp := ⟨let ⟨f, fd, ps, m, a, b⟩ := c.ex; ⟨f, fd, ps, m, a.mono h, b⟩⟩
theorem CalE.mono (c : CalE P w K mg base j C sp) (h : j ≤ k) : CalE P w K mg base k C sp := ⟨let ⟨f, fd, ps, m, a, b⟩ := c.ex; ⟨f, fd, ps, m, a.mono h, b⟩⟩
end
section
variable {X : Cx} {k n : Nat} {x : Str} {ps ks : List Str} {ix : List Nat} {sp : Sp} {C : Addr} {p pos : Pos} {e a b : Expr} {es : List Expr} {kws : List Keyword} {t tk : TA} {ta tb : TE}
theorem pe_cal (c : Cal X.prog X.w X.K X.mg X.base k x ps sp) (hr : Room k X.A) (hg : Gl X x) (ha : PA X (e :: es) t) (hdb : (x == ("__debug__" : Str)) = false := by decide)
    (he : starEach (e :: es) X.env = (false, eval e X.env) :: starEach es X.env := by rfl) (hpl : (backTo pos (starEach es X.env)).any (·.1) = false := by rfl) : PE X (.Call (.Name x p) (e :: es) [] pos) (tCall sp [] E0 t) := by
  obtain ⟨f, fd, F, hm, hk, hb⟩ := c.ex
  exact pe_call F hr hg hm hk hb .nil pass0 ha hdb he hpl
theorem pe_calN0 (c : CalN X.prog X.w X.K X.mg X.base k x 0 ks ix sp) (hr : Room k X.A) (hg : Gl X x) (hkw : PK X kws tk) (hall : (backToKw pos (keywordEach kws X.env)).all (·.1.isSome) = true := by rfl)
    (hks : (backToKw pos (keywordEach kws X.env)).filterMap (·.1) = ks := by rfl) (hdb : (x == ("__debug__" : Str)) = false := by decide)
    (hpl : ((backTo pos (starEach [] X.env)).any (·.1) || (backToKw pos (keywordEach kws X.env)).any (·.1.isNone)) = false := by rfl) :
    PE X (.Call (.Name x p) [] kws pos) (tCallN 0 ks.length sp (fun vs zs => perm ix (vs ++ zs)) E0 tNil tk) := by
  obtain ⟨f, fd, ps, F, hm, hk, hb⟩ := c.ex
  exact pe_callN0 F hr hg hm hk hb pass0 hkw hall hks hdb hpl
theorem pe_calN (c : CalN X.prog X.w X.K X.mg X.base k x n ks ix sp) (hr : Room k X.A) (hg : Gl X x) (ha : PA X (e :: es) t) (hkw : PK X kws tk) (hall : (backToKw pos (keywordEach kws X.env)).all (·.1.isSome) = true := by rfl)
    (hks : (backToKw pos (keywordEach kws X.env)).filterMap (·.1) = ks := by rfl) (hdb : (x == ("__debug__" : Str)) = false := by decide) (he : starEach (e :: es) X.env = (false, eval e X.env) :: starEach es X.env := by rfl)
    (hpl : ((backTo pos (starEach (e :: es) X.env)).any (·.1) || (backToKw pos (keywordEach kws X.env)).any (·.1.isNone)) = false := by rfl) :
    PE X (.Call (.Name x p) (e :: es) kws pos) (tCallN n ks.length sp (fun vs zs => perm ix (vs ++ zs)) E0 t tk) := by
  obtain ⟨f, fd, ps, F, hm, hk, hb⟩ := c.ex
  exact pe_callN F hr hg hm hk hb pass0 ha hkw hall hks hdb he hpl
theorem pe_calM (c : CalM X.prog X.w X.K X.mg X.base k x C sp) (hr : Room (k + 1) X.A) (hg : Gl X x) (ha : PA X (e :: es) t) (hdb : (x == ("__debug__" : Str)) = false := by decide)
    (he : starEach (e :: es) X.env = (false, eval e X.env) :: starEach es X.env := by rfl) (hpl : (backTo pos (starEach es X.env)).any (·.1) = false := by rfl) : PE X (.Call (.Name x p) (e :: es) [] pos) (tMake C sp [] E0 t) := by
  obtain ⟨f, fd, ps, M, F, hm, hb⟩ := c.ex
  exact pe_make M F hr hg hm hb .nil pass0 ha hdb he hpl
theorem pe_calMN (c : CalMN X.prog X.w X.K X.mg X.base k x C ks ix sp) (hr : Room (k + 1) X.A) (hg : Gl X x) (hkw : PK X kws tk) (hall : (backToKw pos (keywordEach kws X.env)).all (·.1.isSome) = true := by rfl)
    (hks : (backToKw pos (keywordEach kws X.env)).filterMap (·.1) = ks := by rfl) (hdb : (x == ("__debug__" : Str)) = false := by decide)
    (hpl : ((backTo pos (starEach [] X.env)).any (·.1) || (backToKw pos (keywordEach kws X.env)).any (·.1.isNone)) = false := by rfl) :
    PE X (.Call (.Name x p) [] kws pos) (tMakeK C 0 ks.length sp (fun vs zs => perm ix (vs ++ zs)) E0 tNil tk) := by
  obtain ⟨f, fd, ps, M, F, hm, hb⟩ := c.ex
  exact pe_makeK0 M F hr hg hm hb pass0 hkw hall hks hdb hpl
theorem op_eqE (c : CalE X.prog X.w X.K X.mg X.base k C sp) (hr : Room k X.A) : OpR X (compareOp .Eq) (rEqO X.K C sp) := by
  obtain ⟨f, fd, ps, E, F, hb⟩ := c.ex
  exact op_eqO E F hr hb
theorem op_neE (c : CalE X.prog X.w X.K X.mg X.base k C sp) (hr : Room (k + 1) X.A) : OpR X (compareOp .NotEq) (rNeO X.K C sp) := by
  obtain ⟨f, fd, ps, E, F, hb⟩ := c.ex
  exact op_neO E F hr hb
end
/-! ### defs keep their promises -/
/-- the derivation of a def's body -/
def Dv (P : Program) (w : World) (K : PySem.W.Frag) (mg : Str → Option Value) (base : Heap) (k : Nat) (N : List Str) (qual : Str) (scope : Scope) (f : Addr) (body : List Stmt) (t : TS) : Prop :=
  ∀ (cdv : Value) (A : Around) (outer : List PySem.Env) (s : Shared) (H : Hp) (E : XK), Room k (A.deeper (envOfC qual scope s.heap.objs.size f cdv)) → PSs (cxOf CX0 P w K mg base N qual scope f cdv A outer s H E).nox body t
section
variable {P0 : Program} {w : World} {K : PySem.W.Frag} {mg : Str → Option Value} {base : Heap} {x qual : Str} {params : Arguments} {body : List Stmt} {scope : Scope} {f : Addr} {fd : FuncData} {N ps : List Str} {k : Nat}
  {α : Type} {args : α → List Z.P} {pre : α → Prop} {cost : α → Nat} {t : TS}
theorem fn_pf {res : α → Z.P → Prop} (F : FunD K x qual params body scope [] [] f fd) (S : FnScope N ps scope) (len : ∀ x, (args x).length = ps.length) (dv : Dv P0 w K mg base k N qual scope f body t)
    (pl : ∀ x, pre x → SV K 0 t (startE N.length ((args x).map .v)) [] { nx := fun _ _ => res x .non, rt := fun M d => ∃ p, Fz 0 M d p ∧ res x p }) : FnOk P0 w K mg base CX0 (k + 1) f fd ps (PF K args pre res) := by
  refine F.ok S (fun vs H Q E h => ?_) (fun cdv A outer s H vs Q E hr h => ⟨t, PSs.nox (dv cdv A outer s H E hr), ?_⟩)
  · obtain ⟨X, x, _, r, _⟩ := h
    rw [Rps.length r, len]
  · obtain ⟨X, x, hx, r, hp, q⟩ := h
    exact pf_body (pl x hp) hx r q
theorem fn_pc {res : α → List MC → D → Prop} (F : FunD K x qual params body scope [] [] f fd) (S : FnScope N ps scope) (len : ∀ x, (args x).length = ps.length) (dv : Dv P0 w K mg base k N qual scope f body t)
    (pl : ∀ x, pre x → SV K 0 t (startE N.length ((args x).map .v)) [] { nx := fun _ _ => False, rt := fun M d => res x M d }) : FnOk P0 w K mg base CX0 (k + 1) f fd ps (PC K args pre res) := by
  refine F.ok S (fun vs H Q E h => ?_) (fun cdv A outer s H vs Q E hr h => ⟨t, PSs.nox (dv cdv A outer s H E hr), ?_⟩)
  · obtain ⟨X, x, _, r, _⟩ := h
    rw [Rps.length r, len]
  · obtain ⟨X, x, hx, r, hp, q⟩ := h
    exact pc_body (pl x hp) hx r q
theorem fn_bf {res : α → Z.P → Prop} (F : FunD K x qual params body scope [] [] f fd) (S : FnScope N ps scope) (len : ∀ x, (args x).length + 1 = ps.length) (dv : Dv P0 w K mg base k N qual scope f body t)
    (pl : ∀ x n c, pre x → Bx n c → n + cost x ≤ 1000000000 → SV K 1 t (startE N.length (.c 0 :: (args x).map .v)) [c] { nx := fun _ M => res x .non ∧ ∃ c' M', M = c' :: M' ∧ Bx (n + cost x) c', rt := fun M d => ∃ p, Fz 1 M d p ∧ res x p ∧ ∃ c' M', M = c' :: M' ∧ Bx (n + cost x) c' }) :
    FnOk P0 w K mg base CX0 (k + 1) f fd ps (BF K args pre cost res) := by
  refine F.ok S (fun vs H Q E h => ?_) (fun cdv A outer s H vs Q E hr h => ⟨t, PSs.nox (dv cdv A outer s H E hr), ?_⟩)
  · obtain ⟨X, b, c, n, vs', x, rfl, _, _, _, r, _⟩ := h
    rw [List.length_cons, Rps.length r, len]
  · obtain ⟨X, b, c, n, vs', x, rfl, cb, hb, hn, r, hp, q⟩ := h
    exact bf_body hb (pl x n c hp hb hn) cb r q
theorem fn_mf {C : Addr} {ks : List Str} {res : α → List Z.P} (F : FunD K x qual params body scope [] [] f fd) (S : FnScope N ps scope) (len : ∀ x, (args x).length + 1 = ps.length) (dv : Dv P0 w K mg base k N qual scope f body t)
    (pl : ∀ x, pre x → SV K 1 t (startE N.length (.c 0 :: (args x).map .v)) [.o C [] []] { nx := fun _ M => ∃ M', M = .o C ks ((res x).map .v) :: M', rt := fun _ _ => False }) : FnOk P0 w K mg base CX0 (k + 1) f fd ps (MF K C args pre ks res) := by
  refine F.ok S (fun vs H Q E h => ?_) (fun cdv A outer s H vs Q E hr h => ⟨t, PSs.nox (dv cdv A outer s H E hr), ?_⟩)
  · obtain ⟨X, a, dx, vs', x, rfl, _, _, _, r, _⟩ := h
    rw [List.length_cons, Rps.length r, len]
  · obtain ⟨X, a, dx, vs', x, rfl, hX, ha, hx, r, hp, q⟩ := h
    exact mf_body (pl x hp) ha hX hx r q
end
end Z
/-! short words for what built-ins do -/
namespace Z
open PySem PySem.Spec PyProof.Rows L2
abbrev rIntO : List V → Hp → VK → Prop := fun xs H Q => (∃ i, xs = [.int i] ∧ Q (.int i) H) ∨ ∃ k, xs = [.bl k] ∧ Q (.int (if k then 1 else 0)) H
abbrev rAbsO : List V → Hp → VK → Prop := fun xs H Q => ∃ i, xs = [.int i] ∧ Q (.int (if i < 0 then -i else i)) H
abbrev rInsert : V → List V → Hp → VK → Prop := fun x vs H Q => ∃ (l : Addr) (xs : List V) (i : Int) (y : V), x = .ref l ∧ vs = [.int i, y] ∧ H l = some (.lst xs) ∧ xs.length < sizeLine ∧ 0 ≤ i ∧ i < 2 ^ 63 ∧
    Q .non (upd H l (.lst (xs.take i.toNat ++ [y] ++ xs.drop i.toNat)))
/-! isinstance by the kind of data -/
def pI : P → Bool
  | .int _ => true | .bl _ => true | _ => false
def pB : P → Bool
  | .bl _ => true | _ => false
def pS : P → Bool
  | .str _ => true | _ => false
def pT : P → Bool
  | .tup _ => true | _ => false
def pL : P → Bool
  | .lst _ => true | .scr _ => true | _ => false
section
variable {K : PySem.W.Frag} {te : TE} {Γ : Env} {M : Mem} {p : P}
theorem nins (hn : isInsP p = none) : ∀ C, isInsP p = some C → ClsI K C := fun C h => by rw [hn] at h; cases h
theorem ep_isi_int (h : EF K te Γ M p) (hn : isInsP p = none) : EP K (tCB (rIsi K) (tCons te (tCons (tC (.ty "int")) tNil))) Γ M (.bl (pI p)) := ep_isi h (.ty _) (nins hn) (by cases p <;> first | rfl | cases hn)
theorem ep_isi_bool (h : EF K te Γ M p) (hn : isInsP p = none) : EP K (tCB (rIsi K) (tCons te (tCons (tC (.ty "bool")) tNil))) Γ M (.bl (pB p)) := ep_isi h (.ty _) (nins hn) (by cases p <;> first | rfl | cases hn)
theorem ep_isi_str (h : EF K te Γ M p) (hn : isInsP p = none) : EP K (tCB (rIsi K) (tCons te (tCons (tC (.ty "str")) tNil))) Γ M (.bl (pS p)) := ep_isi h (.ty _) (nins hn) (by cases p <;> first | rfl | cases hn)
theorem ep_isi_tuple (h : EF K te Γ M p) (hn : isInsP p = none) : EP K (tCB (rIsi K) (tCons te (tCons (tC (.ty "tuple")) tNil))) Γ M (.bl (pT p)) := ep_isi h (.ty _) (nins hn) (by cases p <;> first | rfl | cases hn)
theorem ep_isi_list (h : EF K te Γ M p) (hn : isInsP p = none) : EP K (tCB (rIsi K) (tCons te (tCons (tC (.ty "list")) tNil))) Γ M (.bl (pL p)) := ep_isi h (.ty _) (nins hn) (by cases p <;> first | rfl | cases hn)
theorem ep_isi_lt (h : EF K te Γ M p) (hn : isInsP p = none) : EP K (tCB (rIsiT K) (tCons te (tCons (tTup (tCons (tC (.ty "list")) (tCons (tC (.ty "tuple")) tNil))) tNil))) Γ M (.bl (pL p || pT p)) := ep_isiT h (.ty _) (.ty _) (nins hn) (by cases p <;> first | rfl | cases hn)
end
section
variable {K : PySem.W.Frag} {n : Nat} {te ta tb tc : TE} {tt tu : TT} {t u : TS} {tar : TA} {Γ : Env} {M : Mem} {E : DE} {p q : P} {b c : Bool} {ps qs : List P} {i j : Int}
theorem ep_andF (h : EP K ta Γ M (.bl b)) (e : b = false) : EP K (tAndV ta tb) Γ M (.bl false) := by
  subst e
  exact ep_andV (c := true) h fun z => nomatch z
theorem ep_orT (h : EP K ta Γ M (.bl b)) (e : b = true) : EP K (tOrV ta tb) Γ M (.bl true) := by
  subst e
  exact ep_orV (c := true) h fun z => nomatch z
theorem eb_andF (h : EB K tt Γ M b) (e : b = false) : EB K (tAnd tt tu) Γ M false := by
  subst e
  exact eb_and (c := true) h fun z => nomatch z
theorem eb_orT (h : EB K tt Γ M b) (e : b = true) : EB K (tOr tt tu) Γ M true := by
  subst e
  exact eb_or (c := true) h fun z => nomatch z
theorem ep_ifT (h : EB K tt Γ M b) (e : b = true) (h1 : EP K ta Γ M p) : EP K (tIf tt ta tb) Γ M p := ev_if (et_eb h (by subst e; exact h1))
theorem ep_ifF (h : EB K tt Γ M b) (e : b = false) (h1 : EP K tb Γ M p) : EP K (tIf tt ta tb) Γ M p := ev_if (et_eb h (by subst e; exact h1))
theorem ep_ifI (h : EB K tt Γ M b) (h1 : b = true → EP K ta Γ M (.int i)) (h2 : b = false → EP K tb Γ M (.int j)) : EP K (tIf tt ta tb) Γ M (.int (if b = true then i else j)) := by
  cases b with
  | true => exact ep_ifT h rfl (h1 rfl)
  | false => exact ep_ifF h rfl (h2 rfl)
theorem ep_ifL (h : EB K tt Γ M b) (h1 : b = true → EP K ta Γ M (.lst ps)) (h2 : b = false → EP K tb Γ M (.lst qs)) : EP K (tIf tt ta tb) Γ M (.lst (if b = true then ps else qs)) := by
  cases b with
  | true => exact ep_ifT h rfl (h1 rfl)
  | false => exact ep_ifF h rfl (h2 rfl)
theorem ep_ifS {x y : Str} (h : EB K tt Γ M b) (h1 : b = true → EP K ta Γ M (.str x)) (h2 : b = false → EP K tb Γ M (.str y)) : EP K (tIf tt ta tb) Γ M (.str (if b = true then x else y)) := by
  cases b with
  | true => exact ep_ifT h rfl (h1 rfl)
  | false => exact ep_ifF h rfl (h2 rfl)
theorem sv_ifT (h : EB K tt Γ M b) (e : b = true) (h1 : SV K n t Γ M E) : SV K n (tIfS tt t u) Γ M E := sv_if (et_eb h (by subst e; exact h1))
theorem sv_ifF (h : EB K tt Γ M b) (e : b = false) (h1 : SV K n u Γ M E) : SV K n (tIfS tt t u) Γ M E := sv_if (et_eb h (by subst e; exact h1))
theorem sv_retP (h : EP K te Γ M p) (e : E.rt M (.v p)) : SV K n (tRet te) Γ M E := sv_ret (ev_ep h e)
theorem sv_tup {g : TG} (h : EP K te Γ M p) (hg : GV K g p Γ M fun Γ' => E.nx Γ' M) : SV K n (tAsg te g) Γ M E := sv_asgG (ev_ep h ⟨p, rfl, hg⟩)
theorem fz_is {p q : P} (h : q = p) : ∃ r, Fz n M (.v q) r ∧ r = p := ⟨q, .v q, h⟩
end
/-- cells that a callee made, as data -/
theorem ev_callCP {K : PySem.W.Frag} {α : Type} {args : α → List P} {pre : α → Prop} {res : α → List MC → D → Prop} {Γ : Env} {M : Mem} {Φ : Mem → D → Prop} {t : TA} {E : XK}
    (h : EA K t Γ M fun M1 ds => ∃ x, ds = (args x).map .v ∧ pre x ∧ ∀ cs d, res x cs d → ∃ p, Fz 0 cs d p ∧ Φ M1 (.v p)) : EV K (tCall (PC K args pre res) [] E t) Γ M Φ := fun X A σ H s Q q =>
  h X A σ H s _ fun A1 M1 vs ds H1 t1 s1 r ⟨x, ed, hp, f⟩ => by
    subst ed
    refine ⟨XA X A1, x, s1.ce.xa, by rw [List.append_nil]; exact r.toRps, hp, fun v B cs d H' sm hb c rv hr => ?_⟩
    obtain ⟨p, fz, f2⟩ := f cs d hr
    exact q _ _ v _ H' (t1.trans (.ofSame sm)) (s1.same sm) (.v (Fz.rp0 c fz rv)) f2
end Z
set_option maxRecDepth 100000
set_option maxHeartbeats 4000000
/-! comprehensions over written items, item by item -/
namespace Z
open PySem PySem.Spec PyProof.Rows L2
section
variable {K : PySem.W.Frag} {wi : TI} {g : TG} {tt : TT} {te : TE} {vs : List Nat} {Γ : Env} {M : Mem} {items outs : List P}
theorem GV.imp {p : P} {Ψ Ψ' : Env → Prop} (h : GV K g p Γ M Ψ) (i : ∀ Γ', Ψ Γ' → Ψ' Γ') : GV K g p Γ M Ψ' := fun X A σ H v s r Q q => h X A σ H v s r Q fun Γ' σ' s' f => q Γ' σ' s' (i Γ' f)
inductive LcU (K : PySem.W.Frag) (g : TG) (tt : TT) (te : TE) (Γ : Env) (M : Mem) : List P → List P → Prop
  | nil : LcU K g tt te Γ M [] []
  | take {p q : P} {ps qs : List P} : GV K g p Γ M (fun Γ2 => EB K tt Γ2 M true ∧ EP K te Γ2 M q) → LcU K g tt te Γ M ps qs → LcU K g tt te Γ M (p :: ps) (q :: qs)
  | skip {p : P} {ps qs : List P} : GV K g p Γ M (fun Γ2 => EB K tt Γ2 M false) → LcU K g tt te Γ M ps qs → LcU K g tt te Γ M (p :: ps) qs
theorem LcU.len : ∀ {items outs : List P}, LcU K g tt te Γ M items outs → outs.length ≤ items.length
  | _, _, .nil => Nat.le_refl _
  | _, _, .take _ h => Nat.succ_le_succ h.len
  | _, _, .skip _ h => Nat.le_succ_of_le h.len
theorem en_lcU (hT : Tgt vs g) (hi : EIp K wi Γ M items) (hl : items.length ≤ 99999) (h : LcU K g tt te (wipeE Γ vs) M items outs) : EN K (tLc wi g tt te vs) Γ M fun M' ds => M' = M ∧ ds = outs.map .v := by
  refine en_lc hT (fun X A σ H s R q => hi X A σ H s R fun A' M' its J H' t s' wk ⟨e1, e2⟩ => q A' M' its J H' t s' wk ?_)
  subst e1 e2
  refine ⟨fun i M1 acc => M1 = M' ∧ ∃ rest, acc ++ rest = outs ∧ LcU K g tt te (wipeE Γ vs) M' (its.drop i) rest, ⟨rfl, outs, rfl, h⟩, fun i p M1 acc ep ⟨e1, rest, e2, hr⟩ => ⟨?_, ?_⟩, fun M1 acc ⟨e1, rest, e2, hr⟩ => ⟨e1, ?_⟩⟩
  · have h1 := h.len
    have h2 : acc.length ≤ outs.length := by rw [← e2, List.length_append]; omega
    omega
  · subst e1
    have e3 : its.drop i = p :: its.drop (i + 1) := by
      rw [List.drop_eq_getElem?_toList_append, ep]
      rfl
    rw [e3] at hr
    cases hr with
    | take h1 h2 =>
      refine h1.imp fun Γ2 ⟨hb, hv⟩ => et_eb hb ?_
      rw [if_pos rfl]
      exact ev_ep hv ⟨_, rfl, rfl, _, by rw [← e2, List.append_assoc]; rfl, h2⟩
    | skip h1 h2 =>
      refine h1.imp fun Γ2 hb => et_eb hb ?_
      exact ⟨rfl, rest, e2, h2⟩
  · rw [List.drop_length] at hr
    cases hr
    rw [← e2, List.append_nil]
theorem ep_lcU (hT : Tgt vs g) (hi : EIp K wi Γ M items) (hl : items.length ≤ 99999) (h : LcU K g tt te (wipeE Γ vs) M items outs) : EP K (tLc wi g tt te vs) Γ M (.lst outs) :=
  ev_new ((en_lcU hT hi hl h).imp fun M' ds ⟨e1, e2⟩ => ⟨_, e2, e1, rfl⟩)
/-- without a test -/
theorem lcU_take {p q : P} {ps qs : List P} (h : GV K g p Γ M fun Γ2 => EP K te Γ2 M q) (t : LcU K g tYes te Γ M ps qs) : LcU K g tYes te Γ M (p :: ps) (q :: qs) := .take (h.imp fun Γ2 f => ⟨eb_yes, f⟩) t
end
/-! a cell that is changed no more becomes data -/
mutual
def lowD (m : Nat) : D → Bool
  | .v _ => true | .c k => decide (k < m) | .t ds => lowDs m ds
def lowDs (m : Nat) : List D → Bool
  | [] => true
  | d :: ds => lowD m d && lowDs m ds
end
theorem lowDs_all (m : Nat) : ∀ ds : List D, lowDs m ds = ds.all (lowD m)
  | [] => rfl
  | d :: ds => by rw [List.all_cons, ← lowDs_all m ds]; rfl
def lowC (m : Nat) : MC → Bool
  | .l ds => ds.all (lowD m) | .o _ _ ds => ds.all (lowD m) | .d _ ds => ds.all (lowD m) | .t _ ds => ds.all (lowD m) | .f _ _ ds => ds.all (lowD m)
section
variable {K : PySem.W.Frag} {n : Nat} {Γ Γ' : Env} {M0 : Mem} {ps : List P}
mutual
theorem RD.low {X : Addr → Prop} {A : List Addr} {H : Hp} {m : Nat} : ∀ {v : V} {d : D}, RD K X A H v d → lowD m d = true → RD K X (A.take m) H v d
  | _, _, .v r, _ => .v (r.less fun a z => z.elim .inl fun z => .inr (List.mem_of_mem_take z))
  | _, _, .c e, l => by
    have hk := of_decide_eq_true l
    refine .c ?_
    rw [List.getElem?_take_of_lt hk]
    exact e
  | _, _, .t h n r, l => .t h (fun z => n (z.elim .inl fun z => .inr (List.mem_of_mem_take z))) (RDs.low r (by rw [← lowDs_all]; exact l))
theorem RDs.low {X : Addr → Prop} {A : List Addr} {H : Hp} {m : Nat} : ∀ {v : List V} {d : List D}, RDs K X A H v d → d.all (lowD m) = true → RDs K X (A.take m) H v d
  | _, _, .nil, _ => .nil
  | _, _, .cons h r, l => by
    rw [List.all_cons, Bool.and_eq_true] at l
    exact .cons (RD.low h l.1) (RDs.low r l.2)
end
theorem nrm_freeze (hn : n ≤ M0.length) (hl : Γ'.length = Γ.length) (hM : M0.all (lowC M0.length) = true) (hΓ : ∀ (i : Nat) (d : D), Γ'[i]? = some (some d) → (Γ[i]? = some (some d) ∧ lowD M0.length d = true) ∨ (d = .v (.lst ps) ∧ Γ[i]? = some (some (.c M0.length)))) :
    Nrm K n Γ (M0 ++ [.l (ps.map .v)]) Γ' M0 := fun X A0 A H0 H σ l t s => by
  obtain ⟨B, eA, fB⟩ := t.ext
  have lenA : A.length = M0.length + 1 := by rw [s.ce.len]; simp
  have tk : A.take M0.length = A0 ++ B.take (M0.length - n) := by
    rw [eA, List.take_append, List.take_of_length_le (by omega), l]
  refine ⟨A.take M0.length, ⟨⟨B.take (M0.length - n), tk, fun b hb => fB b (List.mem_of_mem_take hb)⟩, t.keep, t.stay⟩, ⟨s.ce.nd.sublist (List.take_sublist _ _), by rw [List.length_take]; omega, fun k a m e1 e2 => ?_, s.ce.xs, fun a z h => s.ce.dj a z (List.mem_of_mem_take h)⟩, by rw [s.sl.len, hl], fun i d e => ?_⟩
  · have hk : k < M0.length := (List.getElem?_eq_some_iff.mp e2).1
    rw [List.getElem?_take_of_lt hk] at e1
    have h := s.ce.at_ k a m e1 (by rw [List.getElem?_append_left hk]; exact e2)
    have lw := List.all_eq_true.mp hM m (List.mem_of_getElem? e2)
    cases m with
    | l ds => obtain ⟨xs, h1, h2⟩ := h; exact ⟨xs, h1, h2.low lw⟩
    | o C ks ds => obtain ⟨dx, xs, h1, h2, h3⟩ := h; exact ⟨dx, xs, h1, h2, h3.low lw⟩
    | d ks ds => obtain ⟨xs, h1, h2, h3⟩ := h; exact ⟨xs, h1, h2, h3.low lw⟩
    | t ks ds => obtain ⟨xs, h1, h2, h3⟩ := h; exact ⟨xs, h1, h2, h3.low lw⟩
    | f u ks ds => obtain ⟨xs, h1, h2, h3⟩ := h; exact ⟨xs, h1, h2, h3.low lw⟩
  · rcases hΓ i d e with ⟨e1, lw⟩ | ⟨rfl, e1⟩
    · obtain ⟨v, e2, r⟩ := s.sl.at_ i d e1
      exact ⟨v, e2, r.low lw⟩
    · obtain ⟨v, e2, r⟩ := s.sl.at_ i _ e1
      refine ⟨v, e2, .v ?_⟩
      have f : Fz M0.length (M0 ++ [.l (ps.map .v)]) (.c M0.length) (.lst ps) := .c (Nat.le_refl _) (by rw [List.getElem?_append_right (Nat.le_refl _), Nat.sub_self]; rfl) (Fzs.vs _ _ _)
      exact Fz.rp s.ce f r
end
section
variable {K : PySem.W.Frag} {α : Type} {args : α → List P} {pre : α → Prop} {cost : α → Nat} {res : α → P → Prop} {Γ : Env} {M : Mem} {Φ : Mem → D → Prop} {tar : TA} {E : XK} {ps : List P}
/-- the box handed on, from a slot -/
theorem ev_bx {x kc n : Nat} {c : MC} (e : Γ[x]? = some (some (.c kc))) (h : EPs K tar Γ M ps) (hc : M[kc]? = some c) (hb : Bx n c) (y : α) (ex : ps = args y) (hp : pre y) (hn : n + cost y ≤ 1000000000) (hr : ∀ p c', res y p → Bx (n + cost y) c' → Φ (M.set kc c') (.v p)) :
    EV K (tCall (BF K args pre cost res) [] E (tCons (tVar x) tar)) Γ M Φ := ev_callB (ea_cons (ev_var e (ea_ep h ⟨kc, c, n, y, by rw [ex], hc, hb, hn, hp, hr⟩)))
end
end Z
set_option maxRecDepth 100000
set_option maxHeartbeats 4000000
/-! max of a tuple of numbers; lists put together, to be cells; promises called by keywords. -/
namespace Z
open PySem PySem.Spec PyProof.Rows L2
theorem hold_ints {h : Heap} : ∀ {ns : List Int} {us : List Value}, Vals (ns.map V.int) us → PySem.W.HoldAll h us ns
  | [], _, .nil => ⟨_, .nil⟩
  | n :: ns, _, .cons r rr => by
    obtain ⟨t, e⟩ := r
    subst e
    obtain ⟨as, h2⟩ := hold_ints rr
    exact ⟨_, .cons (.int n t) h2⟩
def rMaxT (K : PySem.W.Frag) : List V → Hp → VK → Prop := fun xs H Q => ∃ (a : Addr) (ns : List Int), xs = [.ref a] ∧ SqT K H a (ns.map V.int) ∧ 0 < ns.length ∧ ∀ m : Int, Q (.int m) H
theorem call_maxT {X : Cx} (hc : X.calm = true) (hu : X.A.units + 64 < cLine) : CallR X (.builtin "max") (rMaxT X.K) := by
  intro pins s σ H vs us Q I r h
  obtain ⟨a, ns, rfl, hs, hne, q⟩ := h
  obtain ⟨its, rv, p, hz⟩ := I.tuple hs
  rw [Vals.ref1 r]
  cases ns with
  | nil => simp at hne
  | cons n ns =>
    refine PySem.W.max_tuple_datum (α := Int) (I.ok.hd hc) (show s.heap.IsTuple a its.toArray from p) (x := n) (xs := ns) (by simpa using hold_ints rv) (by show X.A.units + 1 + 0 < cLine; omega) fun i v h' tk hi hh hk => ?_
    obtain ⟨as, hr⟩ := hh
    have hv : ∃ m t, v = Value.int m t := by
      cases hr with
      | _ => exact ⟨_, _, rfl⟩
    obtain ⟨m, t, e⟩ := hv
    subst e
    exact ⟨.int m, H, I.kept hk, ⟨_, rfl⟩, q m⟩
section
variable {K : PySem.W.Frag} {Γ : Env} {M : Mem} {ta tb : TE} {tar t tk : TA} {ps qs : List P} {Φ : Mem → D → Prop} {E : XK}
theorem en_plus (ha : EP K ta Γ M (.lst ps)) (hb : EP K tb Γ M (.lst qs)) (hl : ps.length + qs.length ≤ sizeLine) : EN K (tOp (rPlus K) ta tb) Γ M fun M' ds => M' = M ∧ ds = (ps ++ qs).map .v := fun X A σ H s Q q =>
  ha X A σ H s _ fun A1 M1 v1 d1 H1 t1 s1 r1 ⟨e1, e2⟩ => by
    subst e1 e2
    refine hb X A1 σ H1 s1 _ fun A2 M2 v2 d2 H2 t2 s2 r2 ⟨e1, e2⟩ => ?_
    subst e1 e2
    obtain ⟨a, xs, e, ha', na, ra⟩ := (t2.rp r1.toRp).lstOf
    obtain ⟨b, ys, e', hb', nb, rb⟩ := r2.toRp.lstOf
    subst e e'
    refine .inr (.inr (.inl ⟨a, b, xs, ys, rfl, rfl, ha', hb', by rw [Rps.length ra, Rps.length rb]; exact hl, fun p hp => ?_⟩))
    have hp0 : H p = none := by
      cases e : H p with
      | none => rfl
      | some o =>
        obtain ⟨u, q⟩ := (t1.trans t2).stay p o e
        rw [hp] at q
        cases q
    have tx : TrX X A2 H2 (X1 X p) A2 (upd H2 p (.lst (xs ++ ys))) := (Tr.ofSame (same_new hp)).x.more hp
    exact q A2 _ p (xs ++ ys) _ _ ((t1.trans t2).trans (.ofSame (same_new hp))) hp0 (s2.fresh hp) upd_same (.ofRps (tx.rps (ra.append rb))) ⟨rfl, rfl⟩
theorem ev_callN {α : Type} {args : α → List P} {pre : α → Prop} {res : α → P → Prop} {n m : Nat} {ix : List Nat} (h : EPs K t Γ M ps) (hk : EPs K tk Γ M qs) (l1 : ps.length = n) (l2 : qs.length = m) (x : α) (ex : perm ix (ps ++ qs) = args x) (hp : pre x) (hr : ∀ p, res x p → Φ M (.v p)) :
    EV K (tCallN n m (PF K args pre res) (fun vs zs => perm ix (vs ++ zs)) E t tk) Γ M Φ := fun X A σ H s Q q =>
  h X A σ H s _ fun A1 M1 vs ds H1 t1 s1 r ⟨e1, e2⟩ => by
    subst e1 e2
    refine hk X A1 σ H1 s1 _ fun A2 M2 zs es H2 t2 s2 r2 ⟨e1, e2⟩ => ?_
    subst e1 e2
    have r3 := (t2.rds r).toRps
    have r4 := r2.toRps
    refine ⟨by rw [Rps.length r3, l1], by rw [Rps.length r4, l2], XA X A2, x, s2.ce.xa, by rw [← ex]; exact (Rps.append r3 r4).perm ix, hp, fun v p H' sm rp hr' => ?_⟩
    exact q A2 _ v (.v p) H' ((t1.trans t2).trans (.ofSame sm)) (s2.same sm) (.v rp) (hr p hr')
/-- cells that a callee made (called by keywords), as data -/
theorem ev_callNCP {α : Type} {args : α → List P} {pre : α → Prop} {res : α → List MC → D → Prop} {n m : Nat} {ix : List Nat} (h : EPs K t Γ M ps) (hk : EPs K tk Γ M qs) (l1 : ps.length = n) (l2 : qs.length = m) (x : α) (ex : perm ix (ps ++ qs) = args x) (hp : pre x)
    (f : ∀ cs d, res x cs d → ∃ p, Fz 0 cs d p ∧ Φ M (.v p)) : EV K (tCallN n m (PC K args pre res) (fun vs zs => perm ix (vs ++ zs)) E t tk) Γ M Φ := fun X A σ H s Q q =>
  h X A σ H s _ fun A1 M1 vs ds H1 t1 s1 r ⟨e1, e2⟩ => by
    subst e1 e2
    refine hk X A1 σ H1 s1 _ fun A2 M2 zs es H2 t2 s2 r2 ⟨e1, e2⟩ => ?_
    subst e1 e2
    have r3 := (t2.rds r).toRps
    have r4 := r2.toRps
    refine ⟨by rw [Rps.length r3, l1], by rw [Rps.length r4, l2], XA X A2, x, s2.ce.xa, by rw [← ex]; exact (Rps.append r3 r4).perm ix, hp, fun v B cs d H' sm hb c rv hr => ?_⟩
    obtain ⟨p, fz, f2⟩ := f cs d hr
    exact q _ _ v _ H' ((t1.trans t2).trans (.ofSame sm)) (s2.same sm) (.v (Fz.rp0 c fz rv)) f2
end
def rMaxB (K : PySem.W.Frag) : List V → Hp → VK → Prop := fun xs H Q => rMaxA K xs H Q ∨ rMaxT K xs H Q
theorem call_maxB {X : Cx} (hc : X.calm = true) (hu : X.A.units + 64 < cLine) : CallR X (.builtin "max") (rMaxB X.K) := (call_maxA hc).or (call_maxT hc hu)
theorem ev_maxT {K : PySem.W.Frag} {Γ : Env} {M : Mem} {tar : TA} {ns : List Int} {Φ : Mem → D → Prop} (h : EPs K tar Γ M [.tup (ns.map .int)]) (hn : 0 < ns.length) (hr : ∀ m : Int, Φ M (.v (.int m))) : EV K (tCB (rMaxB K) tar) Γ M Φ := fun X A σ H s Q q =>
  h X A σ H s _ fun A1 M1 v1 d1 H1 t1 s1 r1 ⟨e1, e2⟩ => by
    subst e1 e2
    have rr := r1.toRps
    cases rr with
    | cons r2 r3 =>
      cases r3
      obtain ⟨a, xs, e, hq, rx⟩ := r2.tupOf
      subst e
      rw [Rps.ints rx] at hq
      exact .inr ⟨a, ns, rfl, hq, hn, fun m => q A1 _ _ _ H1 t1 s1 (.v (.int m)) (hr m)⟩
end Z
set_option maxRecDepth 100000
set_option maxHeartbeats 4000000
/-! an item of a written dict -/
namespace Z
open PySem PySem.Spec PyProof.Rows L2
section
variable {K : PySem.W.Frag} {Γ : Env} {M : Mem}
def EPp (K : PySem.W.Frag) (Γ : Env) (M : Mem) : List (TE × TE) → List (Str × P) → Prop
  | [], [] => True
  | (tk, tv) :: r, (k, p) :: ps => tk = tC (.str k) ∧ EP K tv Γ M p ∧ EPp K Γ M r ps
  | _, _ => False
def kvz (ks : List (Str × P)) (vs : List V) : List (Key × V) := (ks.map fun p => (Sum.inr p.1 : Key)).zip vs
theorem pairs_run {kps : List (Str × P)} : ∀ {trs : List (TE × TE)}, EPp K Γ M trs kps → ∀ (X : Addr → Prop) (A : List Addr) (σ : L2.St) (H : Hp), St K X A M Γ σ H → ∀ Q : List (V × V) → Hp → Prop,
    (∀ A' H' vs, Tr A H A' H' → St K X A' M Γ σ H' → Rps K (XA X A') H' vs (kps.map (·.2)) → Q ((kvz kps vs).map fun kv => (kV kv.1, kv.2)) H') → tPairs trs σ H Q := by
  induction kps with
  | nil =>
    intro trs h X A σ H s Q q
    cases trs with
    | nil => exact q A H [] .refl s .nil
    | cons a r => obtain ⟨a1, a2⟩ := a; exact h.elim
  | cons kp ps ih =>
    intro trs h X A σ H s Q q
    obtain ⟨k, p⟩ := kp
    cases trs with
    | nil => exact h.elim
    | cons a r =>
      obtain ⟨tk, tv⟩ := a
      obtain ⟨e, h1, t⟩ := h
      subst e
      refine h1 X A σ H s _ fun A1 M1 v1 d1 H1 t1 s1 r1 ⟨e1, e2⟩ => ?_
      subst e1 e2
      refine ih t X A1 σ H1 s1 _ fun A2 H2 vs t2 s2 r2 => ?_
      exact q A2 H2 (v1 :: vs) (t1.trans t2) s2 (.cons (t2.rp r1.toRp) r2)
theorem ep_dlit {trs : List (TE × TE)} {kps : List (Str × P)} {ty : TE} {w : Str} {i : Nat} {z : P} (h : EPp K Γ M trs kps) (hy : EP K ty Γ M (.str w)) (hl : kps.length ≤ 15) (hz : (kps.map (·.2))[i]? = some z)
    (hs : ∀ vs : List V, vs.length = kps.length → ∃ v, vs[i]? = some v ∧ valV (mergeK [] (kvz kps vs)) (.inr w) = some v) : EP K (tDGet (tDisp trs) ty) Γ M z := fun X A σ H s Q q => by
  intro p hp
  have hx : ¬ X p := fun z => by
    obtain ⟨o, e⟩ := s.ce.xs p z
    rw [hp] at e
    cases e
  have s0 : St K (X1 X p) A M Γ σ (upd H p (.dK [])) := s.fresh hp
  refine pairs_run h (X1 X p) A σ _ s0 _ fun A1 H1 vs t1 s1 r1 => ?_
  have hpA : p ∉ A1 := s1.ce.dj p (.inr rfl)
  have hpA0 : p ∉ A := s0.ce.dj p (.inr rfl)
  have d1 : H1 p = some (.dK []) := t1.keep p _ upd_same hpA0
  have hlen : vs.length = kps.length := by rw [Rps.length r1, List.length_map]
  refine ⟨d1, kvz kps vs, rfl, ?_, ?_⟩
  · unfold kvz
    rw [List.length_zip, List.length_map]
    omega
  have s2 : St K (X1 X p) A1 M Γ σ (upd H1 p (.dK (mergeK [] (kvz kps vs)))) := s1.updX (.inr rfl)
  refine hy (X1 X p) A1 σ _ s2 _ fun A2 M2 v2 d2 H2 t2 s3 r2 ⟨e1, e2⟩ => ?_
  subst e1 e2
  have d2 : H2 p = some (.dK (mergeK [] (kvz kps vs))) := t2.keep p _ upd_same hpA
  obtain ⟨v, hv, hval⟩ := hs vs hlen
  obtain ⟨v', hv', rz⟩ := Rps.get r1 hz
  rw [hv] at hv'
  cases hv'
  have ev : v2 = kV (.inr w) := by
    have := r2.toRp
    cases this
    rfl
  have rz2 : Rp K (XA (X1 X p) A1) (upd H1 p (.dK (mergeK [] (kvz kps vs)))) v z := rz.mono (fun a o e n => by
    rw [upd_ne (fun z => n (.inl (.inr z)))]
    exact e) fun a o e n => n
  have rz3 := t2.rp rz2
  have tr : Tr A H A2 H2 := by
    obtain ⟨B1, e1, f1⟩ := t1.ext
    obtain ⟨B2, e2, f2⟩ := t2.ext
    refine ⟨⟨B1 ++ B2, by rw [e2, e1, List.append_assoc], fun b hb => ?_⟩, fun a o e n => ?_, fun a o e => ?_⟩
    · have nb : b ≠ p := fun z => by
        subst z
        rcases List.mem_append.mp hb with h | h
        · exact hpA (by rw [e1]; exact List.mem_append_right _ h)
        · exact (s3.ce.dj b (.inr rfl)) (by rw [e2]; exact List.mem_append_right _ h)
      rcases List.mem_append.mp hb with h | h
      · have := f1 b h
        rwa [upd_ne nb] at this
      · have := f2 b h
        rw [upd_ne nb] at this
        cases e : H b with
        | none => rfl
        | some o =>
          obtain ⟨u, hu⟩ := t1.stay b o (by rw [upd_ne nb]; exact e)
          rw [this] at hu
          cases hu
    · have na : a ≠ p := ne_of_none e hp
      have k1 := t1.keep a o (by rw [upd_ne na]; exact e) n
      by_cases hA : a ∈ A1
      · rw [e1] at hA
        rcases List.mem_append.mp hA with h | h
        · exact absurd h n
        · have := f1 a h
          rw [upd_ne na, e] at this
          cases this
      · exact t2.keep a o (by rw [upd_ne na]; exact k1) hA
    · have na : a ≠ p := ne_of_none e hp
      obtain ⟨u, hu⟩ := t1.stay a o (by rw [upd_ne na]; exact e)
      exact t2.stay a u (by rw [upd_ne na]; exact hu)
  refine ⟨p, v, rfl, .inl ⟨_, .inr w, .inl d2, ev, hval.symm⟩, ?_⟩
  exact q A2 _ v (.v z) H2 tr (s3.lessX fun _ z => .inl z) (.v (rz3.less fun a z => z.elim (fun z => .inl (.inl z)) .inr)) ⟨rfl, rfl⟩
end
end Z
set_option maxRecDepth 100000
set_option maxHeartbeats 4000000
/-! min of a tuple of numbers; cells forgotten -/
namespace Z
open PySem PySem.Spec PyProof.Rows L2
theorem nrm_drop {K : PySem.W.Frag} {n : Nat} {Γ Γ' : Z.Env} {M0 C : Mem} (hn : n ≤ M0.length) (hl : Γ'.length = Γ.length) (hM : M0.all (lowC M0.length) = true) (hΓ : ∀ (i : Nat) (d : D), Γ'[i]? = some (some d) → Γ[i]? = some (some d) ∧ lowD M0.length d = true) :
    Nrm K n Γ (M0 ++ C) Γ' M0 := fun X A0 A H0 H σ l t s => by
  obtain ⟨B, eA, fB⟩ := t.ext
  have lenA : A.length = M0.length + C.length := by rw [s.ce.len]; simp
  have tk : A.take M0.length = A0 ++ B.take (M0.length - n) := by
    rw [eA, List.take_append, List.take_of_length_le (by omega), l]
  refine ⟨A.take M0.length, ⟨⟨B.take (M0.length - n), tk, fun b hb => fB b (List.mem_of_mem_take hb)⟩, t.keep, t.stay⟩, ⟨s.ce.nd.sublist (List.take_sublist _ _), by rw [List.length_take]; omega, fun k a m e1 e2 => ?_, s.ce.xs, fun a z h => s.ce.dj a z (List.mem_of_mem_take h)⟩, by rw [s.sl.len, hl], fun i d e => ?_⟩
  · have hk : k < M0.length := (List.getElem?_eq_some_iff.mp e2).1
    rw [List.getElem?_take_of_lt hk] at e1
    have h := s.ce.at_ k a m e1 (by rw [List.getElem?_append_left hk]; exact e2)
    have lw := List.all_eq_true.mp hM m (List.mem_of_getElem? e2)
    cases m with
    | l ds => obtain ⟨xs, h1, h2⟩ := h; exact ⟨xs, h1, h2.low lw⟩
    | o C ks ds => obtain ⟨dx, xs, h1, h2, h3⟩ := h; exact ⟨dx, xs, h1, h2, h3.low lw⟩
    | d ks ds => obtain ⟨xs, h1, h2, h3⟩ := h; exact ⟨xs, h1, h2, h3.low lw⟩
    | t ks ds => obtain ⟨xs, h1, h2, h3⟩ := h; exact ⟨xs, h1, h2, h3.low lw⟩
    | f u ks ds => obtain ⟨xs, h1, h2, h3⟩ := h; exact ⟨xs, h1, h2, h3.low lw⟩
  · obtain ⟨e1, lw⟩ := hΓ i d e
    obtain ⟨v, e2, r⟩ := s.sl.at_ i d e1
    exact ⟨v, e2, r.low lw⟩

theorem minOf_int : ∀ (xs : List Int) (x : Int), (PySem.W.minOf x xs = x ∨ PySem.W.minOf x xs ∈ xs) ∧ PySem.W.minOf x xs ≤ x ∧ ∀ y ∈ xs, PySem.W.minOf x xs ≤ y
  | [], x => ⟨.inl rfl, Int.le_refl _, fun y h => by cases h⟩
  | z :: zs, x => by
    have e : PySem.W.minOf x (z :: zs) = PySem.W.minOf (if decide (z < x) = true then z else x) zs := rfl
    obtain ⟨h1, h2, h3⟩ := minOf_int zs (if decide (z < x) = true then z else x)
    rw [e]
    by_cases h : z < x
    · rw [if_pos (decide_eq_true h)] at h1 h2 h3 ⊢
      refine ⟨.inr (h1.elim (fun e => by rw [e]; exact List.mem_cons_self ..) (fun m => List.mem_cons_of_mem _ m)), by omega, fun y hy => ?_⟩
      rcases List.mem_cons.mp hy with rfl | hy
      · exact h2
      · exact h3 y hy
    · have h' : ¬ decide (z < x) = true := fun w => h (of_decide_eq_true w)
      rw [if_neg h'] at h1 h2 h3 ⊢
      refine ⟨h1.elim .inl (fun m => .inr (List.mem_cons_of_mem _ m)), h2, fun y hy => ?_⟩
      rcases List.mem_cons.mp hy with rfl | hy
      · omega
      · exact h3 y hy
def rMinT (K : PySem.W.Frag) : List V → Hp → VK → Prop := fun xs H Q => ∃ (a : Addr) (ns : List Int), xs = [.ref a] ∧ SqT K H a (ns.map V.int) ∧ 0 < ns.length ∧ Q (.int (minL ns)) H
theorem call_minT {X : Cx} (hc : X.calm = true) (hu : X.A.units + 64 < cLine) : CallR X (.builtin "min") (rMinT X.K) := by
  intro pins s σ H vs us Q I r h
  obtain ⟨a, ns, rfl, hs, hne, q⟩ := h
  obtain ⟨its, rv, p, hz⟩ := I.tuple hs
  rw [Vals.ref1 r]
  cases ns with
  | nil => simp at hne
  | cons n ns =>
    refine PySem.W.min_tuple_datum (α := Int) (I.ok.hd hc) (show s.heap.IsTuple a its.toArray from p) (x := n) (xs := ns) (by simpa using hold_ints rv) (by show X.A.units + 1 + 0 < cLine; omega) fun i v h' tk hi hh hk => ?_
    obtain ⟨h1, h2, h3⟩ := minOf_int ns n
    have hm : PySem.W.minOf n ns ∈ n :: ns := h1.elim (fun e => by rw [e]; exact List.mem_cons_self ..) (fun m => List.mem_cons_of_mem _ m)
    have hb : ∀ y ∈ n :: ns, PySem.W.minOf n ns ≤ y := fun y hy => by
      rcases List.mem_cons.mp hy with rfl | hy
      · exact h2
      · exact h3 y hy
    have em : PySem.W.minOf n ns = minL (n :: ns) := minL_of hm hb
    rw [em] at hh
    obtain ⟨as, hr⟩ := hh
    have hv : ∃ t, v = Value.int (minL (n :: ns)) t := by
      cases hr with
      | _ => exact ⟨_, rfl⟩
    obtain ⟨t, e⟩ := hv
    subst e
    exact ⟨.int (minL (n :: ns)), H, I.kept hk, ⟨_, rfl⟩, q⟩
def rMinB (K : PySem.W.Frag) : List V → Hp → VK → Prop := fun xs H Q => rMinA K xs H Q ∨ rMinT K xs H Q
theorem call_minB {X : Cx} (hc : X.calm = true) (hu : X.A.units + 64 < cLine) : CallR X (.builtin "min") (rMinB X.K) := (call_minA hc).or (call_minT hc hu)
theorem rc_minT {K : PySem.W.Frag} {ns : List Int} (h : 0 < ns.length) : RC K (rMinB K) [.tup (ns.map .int)] (.int (minL ns)) := fun X H xs hx r Q k => by
  cases r with
  | cons r1 r2 =>
    cases r2
    obtain ⟨a, ys, e, hq, rx⟩ := r1.tupOf
    subst e
    rw [Rps.ints rx] at hq
    exact .inr ⟨a, ns, rfl, hq, h, k _ H (Same.refl H) (.int _)⟩
end Z
set_option maxRecDepth 100000
set_option maxHeartbeats 4000000
/-! all, any; list(range(..)); [..] * n; a drawn comprehension; short words -/
namespace Z
open PySem PySem.Spec PyProof.Rows L2
section
variable {K : PySem.W.Frag} {n : Nat} {te ta tb : TE} {tar : TA} {tt : TT} {t u : TS} {Γ G : Env} {M M1 : Mem} {E : DE} {b : Bool} {p q : P} {ps : List P} {Φ : Mem → D → Prop}
theorem rc_all {bs : List Bool} : RC K (rAll K) [.lst (bs.map .bl)] (.bl (bs.all id)) := fun X H xs hx r Q k => by
  cases r with
  | cons r1 r2 =>
    cases r2
    obtain ⟨a, ys, e, hq, nx, rx⟩ := r1.lstOf
    subst e
    rw [Rps.bls rx] at hq
    exact ⟨a, bs, rfl, .inl (.inl hq), k _ H (Same.refl H) (.bl _)⟩
theorem rc_any {bs : List Bool} : RC K (rAny K) [.lst (bs.map .bl)] (.bl (bs.any id)) := fun X H xs hx r Q k => by
  cases r with
  | cons r1 r2 =>
    cases r2
    obtain ⟨a, ys, e, hq, nx, rx⟩ := r1.lstOf
    subst e
    rw [Rps.bls rx] at hq
    exact ⟨a, bs, rfl, .inl (.inl hq), k _ H (Same.refl H) (.bl _)⟩
theorem rps_range {X : Addr → Prop} {H : Hp} {lo hi : Int} : Rps K X H (rgV lo hi) (rangeP lo (hi - lo).toNat) := by
  unfold rgV rangeP
  have aux : ∀ l : List Nat, Rps K X H (l.map fun i => V.int (lo + (i : Nat))) (l.map fun i => P.int (lo + (i : Nat))) := by
    intro l
    induction l with
    | nil => exact .nil
    | cons i l ih => exact .cons (.int _) ih
  exact aux _
theorem ep_listRg1 {i : Int} (h : EP K ta Γ M (.int i)) (h0 : 0 ≤ i) (h1 : i ≤ 100000) : EP K (tLstRg (tRg1 ta)) Γ M (.lst (rangeP 0 i.toNat)) := fun X A σ H s Q k =>
  h X A σ H s _ fun A1 M1 v1 d1 H1 t1 s1 r1 ⟨e1, e2⟩ => by
    subst e1 e2
    cases r1 with
    | v r1 =>
      cases r1
      refine ⟨i, rfl, RgOk.of_le (by decide) (by omega) (by decide) h0, fun p hp => ?_⟩
      have rr := rps_range (K := K) (X := XA X A1) (H := H1) (lo := 0) (hi := i)
      rw [show i - 0 = i by omega] at rr
      exact k A1 _ _ (.v (.lst (rangeP 0 i.toNat))) _ (t1.trans (.ofSame (same_new hp))) (s1.same (same_new hp)) (.v (Rp.newL s1.ce.xa hp rr)) ⟨rfl, rfl⟩
theorem rep_rps {X : Addr → Prop} {H : Hp} {xs : List V} (r : Rps K X H xs ps) : ∀ k : Nat, Rps K X H (List.replicate k xs).flatten (List.replicate k ps).flatten
  | 0 => .nil
  | k + 1 => by
    rw [List.replicate_succ, List.replicate_succ, List.flatten_cons, List.flatten_cons]
    exact Rps.append r (rep_rps r k)
theorem ep_rep {i : Int} (ha : EP K ta Γ M (.lst ps)) (hb : EP K tb Γ M (.int i)) (h0 : -100000 ≤ i ∧ i ≤ 100000) (hl : ps.length * i.toNat ≤ sizeLine) : EP K (tOp rRep ta tb) Γ M (.lst (List.replicate i.toNat ps).flatten) := ep_op ha hb fun X H x y hx r1 r2 Q k => by
  obtain ⟨a, xs, e, hq, nx, rx⟩ := r1.lstOf
  subst e
  cases r2
  refine ⟨a, i, xs, rfl, rfl, hq, by omega, by omega, by rw [Rps.length rx]; exact hl, fun p hp => ?_⟩
  exact k _ _ (same_new hp) (Rp.newL hx hp (rep_rps rx _))
theorem sv_ifJ (h : EB K tt Γ M b) (h1 : b = true → SV K n t Γ M { nx := fun Γ' M' => Γ' = G ∧ M' = M1, rt := fun _ _ => False })
    (h2 : b = false → SV K n u Γ M { nx := fun Γ' M' => Γ' = G ∧ M' = M1, rt := fun _ _ => False }) (f : E.nx G M1) : SV K n (tIfS tt t u) Γ M E :=
  sv_ifB h (fun e => (h1 e).imp (fun Γ' M' ⟨e1, e2⟩ => by rw [e1, e2]; exact f) (fun _ _ h => h.elim) (fun _ _ h => h.elim) (fun _ _ h => h.elim))
    fun e => (h2 e).imp (fun Γ' M' ⟨e1, e2⟩ => by rw [e1, e2]; exact f) (fun _ _ h => h.elim) (fun _ _ h => h.elim) (fun _ _ h => h.elim)
theorem ev_ifB (h : EB K tt Γ M b) (h1 : b = true → EV K ta Γ M Φ) (h2 : b = false → EV K tb Γ M Φ) : EV K (tIf tt ta tb) Γ M Φ := ev_if (et_eb h (by
  cases b with
  | true => exact h1 rfl
  | false => exact h2 rfl))
theorem ep_ifB (h : EB K tt Γ M b) (h1 : b = true → EP K ta Γ M p) (h2 : b = false → EP K tb Γ M p) : EP K (tIf tt ta tb) Γ M p := ev_ifB h h1 h2
theorem ep_cast (h : EP K te Γ M p) (e : p = q) : EP K te Γ M q := e ▸ h
theorem rc_maxB2 {i j : Int} : RC K (rMaxB K) [.int i, .int j] (.int (if j > i then j else i)) := fun X H xs hx r Q k => .inl (rc_max2 X H xs hx r Q k)
theorem ev_tup (h : EA K tar Γ M fun M1 ds => ∃ ps, ds = ps.map .v ∧ ps.length ≤ sizeLine ∧ Φ M1 (.v (.tup ps))) : EV K (tTup tar) Γ M Φ := fun X A σ H s Q k =>
  h X A σ H s _ fun A1 M1 v1 d1 H1 t1 s1 r1 ⟨ps, e1, hl, f⟩ => by
    subst e1
    have rr := r1.toRps
    refine ⟨by rw [Rps.length rr]; exact hl, fun p hp => ?_⟩
    exact k A1 _ _ (.v (.tup ps)) _ (t1.trans (.ofSame (same_new hp))) (s1.same (same_new hp)) (.v (Rp.newT s1.ce.xa hp rr)) f
end
theorem Bx.mono {n m : Nat} {c : MC} (h : Bx n c) (hm : n ≤ m) : Bx m c := by
  obtain ⟨a, g, x, d, e, h1, h2, h3, h4, h5⟩ := h
  exact ⟨a, g, x, d, e, h1, h2, h3, h4, by omega⟩
theorem bx_low {n m : Nat} {c : MC} (h : Bx n c) : lowC m c = true := by
  obtain ⟨a0, g0, m0, d0, rfl, _⟩ := h
  rfl
theorem bx_sh {n m : Nat} {c : MC} (h : Bx n c) : shC m c = c := by
  obtain ⟨a0, g0, m0, d0, rfl, _⟩ := h
  rfl
theorem max_if (a b : Int) : (if b > a then b else a) = max a b := by
  split <;> omega
theorem min_if (a b : Int) : (if b < a then b else a) = min a b := by
  split <;> omega
theorem minL_le {ns : List Int} {m : Int} (h : m ∈ ns) : minL ns ≤ m := by
  cases ns with
  | nil => cases h
  | cons x xs =>
    obtain ⟨h1, h2, _⟩ := foldl_min_le xs x
    rcases List.mem_cons.mp h with rfl | h
    · exact h1
    · exact h2 _ h
theorem le_maxL {ns : List Int} {m : Int} (h : m ∈ ns) : m ≤ maxL ns := by
  cases ns with
  | nil => cases h
  | cons x xs =>
    obtain ⟨h1, h2, _⟩ := foldl_max_ge xs x
    rcases List.mem_cons.mp h with rfl | h
    · exact h1
    · exact h2 _ h
theorem maxL_mem {ns : List Int} (h : ns ≠ []) : maxL ns ∈ ns := by
  cases ns with
  | nil => exact (h rfl).elim
  | cons x xs =>
    obtain ⟨_, _, h3⟩ := foldl_max_ge xs x
    rcases h3 with h3 | h3
    · show xs.foldl max x ∈ _
      rw [h3]; exact List.mem_cons_self ..
    · exact List.mem_cons_of_mem _ h3
theorem minL_mem {ns : List Int} (h : ns ≠ []) : minL ns ∈ ns := by
  cases ns with
  | nil => exact (h rfl).elim
  | cons x xs =>
    obtain ⟨_, _, h3⟩ := foldl_min_le xs x
    rcases h3 with h3 | h3
    · show xs.foldl min x ∈ _
      rw [h3]; exact List.mem_cons_self ..
    · exact List.mem_cons_of_mem _ h3
theorem erase_perm {α : Type} {l : List α} {i : Nat} (h : i < l.length) : (l[i] :: l.eraseIdx i).Perm l := by
  rw [List.eraseIdx_eq_take_drop_succ]
  have e : l.take i ++ l[i] :: l.drop (i + 1) = l := by rw [List.getElem_cons_drop, List.take_append_drop]
  exact (List.perm_middle.symm).trans (by rw [e])
theorem map_erase {α β : Type} {f : α → β} : ∀ (l : List α) (i : Nat), (l.map f).eraseIdx i = (l.eraseIdx i).map f
  | [], _ => rfl
  | _ :: _, 0 => rfl
  | x :: l, i + 1 => congrArg (f x :: ·) (map_erase l i)
theorem rangeP_at {lo : Int} {n i : Nat} {p : P} (h : (rangeP lo n)[i]? = some p) : i < n ∧ p = .int (lo + (i : Nat)) := by
  have hi := (List.getElem?_eq_some_iff.mp h).1
  rw [rangeP_len] at hi
  rw [rangeP_get hi] at h
  exact ⟨hi, (Option.some.inj h).symm⟩
section
variable {K : PySem.W.Frag} {wi : TI} {g : TG} {tt : TT} {te : TE} {vs : List Nat} {Γ : Env} {M : Mem} {c : MC} {n cost : Nat} {items : List P}
theorem ep_lc0 (hT : Tgt vs g) (hi : EIp K wi Γ M items) (hl : items.length ≤ 99999)
    (h : ∀ (i : Nat) (p : P), items[i]? = some p → GV K g p (wipeE Γ vs) M fun Γ2 => EB K tt Γ2 M false) : EP K (tLc wi g tt te vs) Γ M (.lst []) := by
  have e := ep_lcm (te := te) hT hi hl (fun _ => false) id fun i p hp => (h i p hp).imp fun Γ2 f => ⟨f, fun z => by cases z⟩
  have e2 : (items.filter fun _ => false).map (id : P → P) = [] := by
    rw [List.filter_eq_nil_iff.mpr (fun _ _ => by simp)]
    rfl
  rwa [e2] at e
/-- a comprehension whose items are drawn, by place -/
theorem en_boxI {Rk : Nat → P → Prop} (hT : Tgt vs g) (hi : EIp K wi Γ [c] items) (hl : items.length ≤ 99999) (hb : Bx n c)
    (h : ∀ (i : Nat) (p : P) (c' : MC) (n' : Nat), items[i]? = some p → Bx n' c' → n' + cost ≤ n + items.length * cost → GV K g p (wipeE Γ vs) [c'] fun Γ2 => EV K te Γ2 [c'] fun M d => ∃ q c'', d = .v q ∧ M = [c''] ∧ Bx (n' + cost) c'' ∧ Rk i q) :
    EN K (tLc wi g tYes te vs) Γ [c] fun M ds => ∃ (qs : List P) (c' : MC), ds = qs.map .v ∧ M = [c'] ∧ Bx (n + items.length * cost) c' ∧ qs.length = items.length ∧ ∀ i q, qs[i]? = some q → Rk i q := by
  refine en_lc hT (fun X A σ H s R q => hi X A σ H s R fun A' M' its J H' t s' wk ⟨e1, e2⟩ => q A' M' its J H' t s' wk ?_)
  subst e1 e2
  refine ⟨fun i M1 acc => ∃ c', M1 = [c'] ∧ Bx (n + i * cost) c' ∧ acc.length = i ∧ ∀ j q, acc[j]? = some q → Rk j q, ⟨c, rfl, by rw [Nat.zero_mul]; exact hb, rfl, fun j q h => by simp at h⟩, ?_, ?_⟩
  · rintro i p M1 acc hp ⟨c', rfl, hb', hl', hR⟩
    have hi2 : i < its.length := (List.getElem?_eq_some_iff.mp hp).1
    refine ⟨by omega, (h i p c' (n + i * cost) hp hb' ?_).imp fun Γ2 hv => ?_⟩
    · have h3 : (i + 1) * cost ≤ its.length * cost := Nat.mul_le_mul_right _ hi2
      rw [Nat.add_mul, Nat.one_mul] at h3
      omega
    · refine et_eb eb_yes ?_
      rw [if_pos rfl]
      refine hv.imp fun M d ⟨q, c'', e1, e2, e3, e4⟩ => ⟨q, e1, c'', e2, ?_, ?_, ?_⟩
      · rw [Nat.add_mul, Nat.one_mul, ← Nat.add_assoc]; exact e3
      · rw [List.length_append, hl']; rfl
      · intro j q' hq'
        by_cases hj : j < acc.length
        · rw [List.getElem?_append_left hj] at hq'
          exact hR j q' hq'
        · have hj2 : j = acc.length := by
            have := (List.getElem?_eq_some_iff.mp hq').1
            rw [List.length_append, List.length_singleton] at this
            omega
          subst hj2
          rw [List.getElem?_append_right (Nat.le_refl _), Nat.sub_self] at hq'
          cases hq'
          rw [hl']
          exact e4
  · rintro M1 acc ⟨c', rfl, hb', hl', hR⟩
    exact ⟨acc, c', rfl, rfl, hb', hl', hR⟩
theorem en_box {Rk : P → Prop} (hT : Tgt vs g) (hi : EIp K wi Γ [c] items) (hl : items.length ≤ 99999) (hb : Bx n c)
    (h : ∀ (i : Nat) (p : P) (c' : MC) (n' : Nat), items[i]? = some p → Bx n' c' → n' + cost ≤ n + items.length * cost → GV K g p (wipeE Γ vs) [c'] fun Γ2 => EV K te Γ2 [c'] fun M d => ∃ q c'', d = .v q ∧ M = [c''] ∧ Bx (n' + cost) c'' ∧ Rk q) :
    EN K (tLc wi g tYes te vs) Γ [c] fun M ds => ∃ (qs : List P) (c' : MC), ds = qs.map .v ∧ M = [c'] ∧ Bx (n + items.length * cost) c' ∧ qs.length = items.length ∧ ∀ q ∈ qs, Rk q :=
  (en_boxI (Rk := fun _ => Rk) hT hi hl hb h).imp fun M ds ⟨qs, c', e1, e2, e3, e4, e5⟩ => ⟨qs, c', e1, e2, e3, e4, fun q hq => by
    obtain ⟨i, hi⟩ := List.getElem?_of_mem hq
    exact e5 i q hi⟩
end
/-! what _law_is compares -/
mutual
def okq : Nat → P → Bool
  | _, .non => true | _, .bl _ => true | _, .int _ => true | _, .str s => decide (s.cps.size < 1000)
  | n + 1, .tup ds => decide (ds.length < 1000) && okqs n ds
  | n + 1, .lst ds => decide (ds.length < 1000) && okqs n ds
  | _, _ => false
def okqs : Nat → List P → Bool
  | _, [] => true
  | n, p :: ps => okq n p && okqs n ps
end
theorem okqs_at {n : Nat} : ∀ {ps : List P} {i : Nat} {p : P}, okqs n ps = true → ps[i]? = some p → okq n p = true
  | [], _, _, _, h => by simp at h
  | p :: ps, 0, q, h, e => by
    have h1 : (okq n p && okqs n ps) = true := by simpa [okqs] using h
    rw [Bool.and_eq_true] at h1
    simp at e
    subst e
    exact h1.1
  | p :: ps, i + 1, q, h, e => by
    have h1 : (okq n p && okqs n ps) = true := by simpa [okqs] using h
    rw [Bool.and_eq_true] at h1
    exact okqs_at h1.2 (by simpa using e)
theorem okq_int {n : Nat} {i : Int} : okq n (.int i) = true := by cases n <;> rfl
theorem okq_bl {n : Nat} {i : Bool} : okq n (.bl i) = true := by cases n <;> rfl
theorem okq_non {n : Nat} : okq n .non = true := by cases n <;> rfl
theorem okqs_of {n : Nat} : ∀ {ps : List P}, (∀ p ∈ ps, okq n p = true) → okqs n ps = true
  | [], _ => by simp [okqs]
  | p :: ps, h => by
    simp only [okqs, Bool.and_eq_true]
    exact ⟨h p (List.mem_cons_self ..), okqs_of fun q hq => h q (List.mem_cons_of_mem _ hq)⟩
theorem okq_lst {n : Nat} {ps : List P} (h1 : ps.length < 1000) (h2 : ∀ p ∈ ps, okq n p = true) : okq (n + 1) (.lst ps) = true := by
  simp only [okq, Bool.and_eq_true, decide_eq_true_eq]
  exact ⟨h1, okqs_of h2⟩
theorem okq_tup {n : Nat} {ps : List P} (h1 : ps.length < 1000) (h2 : ∀ p ∈ ps, okq n p = true) : okq (n + 1) (.tup ps) = true := by
  simp only [okq, Bool.and_eq_true, decide_eq_true_eq]
  exact ⟨h1, okqs_of h2⟩
theorem cut_one {s : Str} {i : Nat} {x : Nat} (h : s.cps.toList[i]? = some x) : cutS s (some (i : Int)) (some ((i : Int) + 1)) = ⟨#[x]⟩ := by
  have hi : i < s.cps.toList.length := (List.getElem?_eq_some_iff.mp h).1
  have hl : s.length = s.cps.toList.length := by simp [Str.length]
  unfold cutS
  rw [hl, show ((i : Int) + 1) = ((i + 1 : Nat) : Int) by omega, HT.sIx_nat, HT.sIx_nat, Nat.min_eq_left (by omega), Nat.min_eq_left (by omega), show i + 1 - i = 1 by omega, List.drop_eq_getElem_cons hi]
  have hx : s.cps.toList[i] = x := (List.getElem?_eq_some_iff.mp h).2
  rw [hx]
  rfl
abbrev DR (res : P → Prop) : DE := { nx := fun _ _ => res .non, rt := fun M d => ∃ r, Fz 0 M d r ∧ res r }
abbrev sqP : Bool → List P → P
  | true, ps => .tup ps | false, ps => .lst ps
theorem ixN_nat {n i : Nat} (h : i < n) : ixN n (i : Int) = some i := by
  unfold ixN
  rw [if_pos (by omega), if_pos (by omega), Int.toNat_natCast]
theorem cut_ints (ns : List Int) (lo hi : Option Int) : cutP (ns.map P.int) lo hi = (cutP ns lo hi).map P.int := by
  unfold cutP
  rw [List.length_map, List.map_take, List.map_drop]
section
variable {K : PySem.W.Frag} {Γ : Env} {M : Mem} {j : Int} {p : P}
theorem ep_ixC {x kc : Nat} {ds : List D} (hc : Γ[x]? = some (some (.c kc))) (hm : M[kc]? = some (.l ds)) (hi : atI ds j = some (.v p)) : EP K (tOp (rIx K) (tVar x) (tC (.int j))) Γ M p :=
  ev_ixC (.inl rfl) (ev_var hc ⟨kc, rfl, ev_ep ep_int ⟨j, ds, .v p, rfl, hm, hi, rfl, rfl⟩⟩)
end
/-- one of two colors -/
theorem in12 {i : Nat} {p : P} (h : ([.int 1, .int 2] : List P)[i]? = some p) : ∃ k : Int, (k = 1 ∨ k = 2) ∧ p = .int k := by
  match i, h with
  | 0, h => cases h; exact ⟨1, .inl rfl, rfl⟩
  | 1, h => cases h; exact ⟨2, .inr rfl, rfl⟩
end Z
set_option maxRecDepth 100000
set_option maxHeartbeats 4000000
/-! The calculus: dicts with keys that are ints and texts; results that hold cells. -/
namespace Z
open PySem PySem.Spec PyProof.Rows L2

def keyP : Key → P
  | .inl i => .int i
  | .inr s => .str s
theorem keyP_rp {K : PySem.W.Frag} {X : Addr → Prop} {H : Hp} {v : V} {k : Key} (r : Rp K X H v (keyP k)) : v = kV k := by
  cases k with
  | inl i => cases r; rfl
  | inr s => cases r; rfl
theorem rp_keyP {K : PySem.W.Frag} {X : Addr → Prop} {H : Hp} (k : Key) : Rp K X H (kV k) (keyP k) := by
  cases k with
  | inl i => exact .int i
  | inr s => exact .str s
/-- what stands at a key -/
def zget {κ α : Type} [DecidableEq κ] : List κ → List α → κ → Option α
  | k' :: ks, d :: ds, k => if k' = k then some d else zget ks ds k
  | _, _, _ => none
def zset {κ α : Type} [DecidableEq κ] : List κ → List α → κ → α → List α
  | k' :: ks, d :: ds, k, x => (if k' = k then x else d) :: zset ks ds k x
  | _, _, _, _ => []
def zputK {κ : Type} [DecidableEq κ] (ks : List κ) (k : κ) : List κ := if k ∈ ks then ks else ks ++ [k]
def zputV {κ α : Type} [DecidableEq κ] (ks : List κ) (ds : List α) (k : κ) (x : α) : List α := if k ∈ ks then zset ks ds k x else ds ++ [x]
section
variable {κ : Type} [DecidableEq κ]
theorem zset_length {α : Type} : ∀ {ks : List κ} {ds : List α} {k : κ} {x : α}, ks.length = ds.length → (zset ks ds k x).length = ds.length
  | [], [], _, _, _ => rfl
  | _ :: ks, _ :: ds, k, x, h => by
    unfold zset
    rw [List.length_cons, zset_length (by simpa using h), List.length_cons]
  | [], _ :: _, _, _, h => by simp at h
  | _ :: _, [], _, _, h => by simp at h
theorem zput_length {α : Type} {ks : List κ} {ds : List α} {k : κ} {x : α} (h : ks.length = ds.length) : (zputK ks k).length = (zputV ks ds k x).length := by
  unfold zputK zputV
  split
  · rw [zset_length h, h]
  · rw [List.length_append, List.length_append, h]; rfl
theorem valV_zip : ∀ {ks : List κ} {vs : List V} {k : κ}, valV (ks.zip vs) k = zget ks vs k
  | [], vs, k => by
    rw [List.zip_nil_left]; rfl
  | _ :: _, [], k => by rw [List.zip_nil_right]; rfl
  | k' :: ks, v :: vs, k => by
    rw [List.zip_cons_cons]
    unfold zget
    by_cases h : k' = k
    · rw [if_pos h]; exact valV_pos h
    · rw [if_neg h]; exact (valV_neg h).trans valV_zip
theorem any_zip : ∀ {ks : List κ} {vs : List V} {k : κ}, ks.length = vs.length → ((ks.zip vs).any fun kv => decide (kv.1 = k)) = decide (k ∈ ks)
  | [], [], k, _ => by simp
  | k' :: ks, v :: vs, k, h => by
    rw [List.zip_cons_cons, List.any_cons, any_zip (by simpa using h)]
    by_cases e : k' = k
    · simp [e]
    · have e2 : ¬ k = k' := fun z => e z.symm
      simp [e, e2]
  | [], _ :: _, _, h => by simp at h
  | _ :: _, [], _, h => by simp at h
theorem map_zip : ∀ {ks : List κ} {vs : List V} {k : κ} {x : V}, ((ks.zip vs).map fun kv => if kv.1 = k then (kv.1, x) else kv) = ks.zip (zset ks vs k x)
  | [], vs, k, x => by simp
  | _ :: _, [], k, x => by simp [zset]
  | k' :: ks, v :: vs, k, x => by
    have e2 : zset (k' :: ks) (v :: vs) k x = (if k' = k then x else v) :: zset ks vs k x := rfl
    rw [List.zip_cons_cons, List.map_cons, map_zip, e2, List.zip_cons_cons]
    by_cases e : k' = k
    · simp [e]
    · simp [e]
theorem putK_zip {ks : List κ} {vs : List V} {k : κ} {x : V} (h : ks.length = vs.length) : putK (ks.zip vs) k x = (zputK ks k).zip (zputV ks vs k x) := by
  unfold putK zputK zputV
  rw [any_zip h]
  by_cases e : k ∈ ks
  · rw [if_pos (decide_eq_true e), if_pos e, if_pos e, map_zip]
  · rw [if_neg (by simpa using e), if_neg e, if_neg e, List.zip_append h]; rfl
end
section
variable {K : PySem.W.Frag} {X : Addr → Prop} {A : List Addr} {H : Hp} {κ : Type} [DecidableEq κ]
theorem Rps.zget : ∀ {ks : List κ} {vs : List V} {ps : List P} {k : κ} {p : P}, Rps K X H vs ps → zget ks ps k = some p → ∃ v, zget ks vs k = some v ∧ Rp K X H v p
  | [], _, _, _, _, _, e => by cases e
  | _ :: _, _, _, _, _, .nil, e => by cases e
  | k' :: ks, _, _, k, p, .cons h r, e => by
    unfold Z.zget at e ⊢
    by_cases q : k' = k
    · rw [if_pos q] at e ⊢; cases e; exact ⟨_, rfl, h⟩
    · rw [if_neg q] at e ⊢; exact Rps.zget r e
theorem RDs.zget : ∀ {ks : List κ} {vs : List V} {ps : List D} {k : κ} {p : D}, RDs K X A H vs ps → zget ks ps k = some p → ∃ v, zget ks vs k = some v ∧ RD K X A H v p
  | [], _, _, _, _, _, e => by cases e
  | _ :: _, _, _, _, _, .nil, e => by cases e
  | k' :: ks, _, _, k, p, .cons h r, e => by
    unfold Z.zget at e ⊢
    by_cases q : k' = k
    · rw [if_pos q] at e ⊢; cases e; exact ⟨_, rfl, h⟩
    · rw [if_neg q] at e ⊢; exact RDs.zget r e
theorem zget_some {α β : Type} : ∀ {ks : List κ} {vs : List α} {ps : List β} {k : κ}, vs.length = ps.length → (zget ks vs k).isSome = (zget ks ps k).isSome
  | [], _, _, _, _ => rfl
  | _ :: _, [], [], _, _ => rfl
  | k' :: ks, v :: vs, p :: ps, k, h => by
    unfold Z.zget
    by_cases q : k' = k
    · rw [if_pos q, if_pos q]; rfl
    · rw [if_neg q, if_neg q]; exact zget_some (by simpa using h)
  | _ :: _, [], _ :: _, _, h => by simp at h
  | _ :: _, _ :: _, [], _, h => by simp at h
theorem RDs.zset : ∀ {ks : List κ} {vs : List V} {ds : List D} {k : κ} {v : V} {d : D}, RD K X A H v d → RDs K X A H vs ds → RDs K X A H (zset ks vs k v) (zset ks ds k d)
  | [], _, _, _, _, _, _, _ => .nil
  | _ :: _, _, _, _, _, _, _, .nil => .nil
  | k' :: ks, _, _, k, v, d, h, .cons q r => by
    unfold Z.zset
    by_cases e : k' = k
    · rw [if_pos e, if_pos e]; exact .cons h (RDs.zset h r)
    · rw [if_neg e, if_neg e]; exact .cons q (RDs.zset h r)
theorem RDs.zput {ks : List κ} {vs : List V} {ds : List D} {k : κ} {v : V} {d : D} (h : RD K X A H v d) (r : RDs K X A H vs ds) : RDs K X A H (zputV ks vs k v) (zputV ks ds k d) := by
  unfold zputV
  split
  · exact r.zset h
  · exact r.append (.cons h .nil)
end

section
variable {K : PySem.W.Frag} {td ty tv : TE} {Γ : Env} {M : Mem} {Φ : Mem → D → Prop} {p q : P} {ks : List Key} {ps : List P} {ds : List D} {k : Key}
theorem Rp.dctOf {X : Addr → Prop} {H : Hp} {a : V} (h : Rp K X H a (.dct ks ps)) : ∃ d vs, a = .ref d ∧ H d = some (.dK (ks.zip vs)) ∧ ¬ X d ∧ ks.length = vs.length ∧ Rps K X H vs ps := by
  cases h with
  | dct h n l r => exact ⟨_, _, rfl, h, n, l, r⟩
theorem ep_dget (h : EP K td Γ M (.dct ks ps)) (h2 : EP K ty Γ M (keyP k)) (e : zget ks ps k = some p) : EP K (tDGet td ty) Γ M p := fun X A σ H s Q q =>
  h X A σ H s _ fun A1 M1 v1 d1 H1 t1 s1 r1 ⟨e1, e2⟩ => by
    subst e1 e2
    refine h2 X A1 σ H1 s1 _ fun A2 M2 v2 d2 H2 t2 s2 r2 ⟨e1, e2⟩ => ?_
    subst e1 e2
    obtain ⟨d, vs, ea, hd, _, l, r⟩ := (t2.rp r1.toRp).dctOf
    obtain ⟨v, ev, rv⟩ := r.zget e
    refine ⟨d, v, ea, ?_, q A2 _ v (.v p) H2 (t1.trans t2) s2 (.v rv) ⟨rfl, rfl⟩⟩
    rw [keyP_rp r2.toRp, ← ev, ← valV_zip]
    exact DGet.k hd
theorem cell_dget {X : Addr → Prop} {A : List Addr} {H : Hp} {a : Addr} {c : MC} (h : CellAt K X A H a c) (hc : c = .d ks ds ∨ ∃ u, c = .f u ks ds) : ∃ vs, Rd H a (.dK (ks.zip vs)) ∧ ks.length = vs.length ∧ RDs K X A H vs ds := by
  rcases hc with rfl | ⟨u, rfl⟩
  · obtain ⟨vs, e, l, r⟩ := h; exact ⟨vs, .inl e, l, r⟩
  · obtain ⟨vs, ⟨e, o, eu⟩, l, r⟩ := h; exact ⟨vs, .inr ⟨o, by rw [← eu]; exact e⟩, l, r⟩
theorem ev_dget (h : EV K td Γ M fun M1 d => ∃ kc, d = .c kc ∧ EV K ty Γ M1 fun M2 e => ∃ k ks ds r c, e = .v (keyP k) ∧ M2[kc]? = some c ∧ (c = .d ks ds ∨ ∃ u, c = .f u ks ds) ∧ zget ks ds k = some r ∧ Φ M2 r) : EV K (tDGet td ty) Γ M Φ := fun X A σ H s Q q =>
  h X A σ H s _ fun A1 M1 v1 d1 H1 t1 s1 r1 ⟨kc, e1, h2⟩ => by
    subst e1
    refine h2 X A1 σ H1 s1 _ fun A2 M2 v2 d2 H2 t2 s2 r2 ⟨k, ks, ds, r, c, e2, hm, hc, hz, f⟩ => ?_
    subst e2
    cases t2.rd r1 with
    | c ek =>
      obtain ⟨vs, hd, l, rr⟩ := cell_dget (s2.ce.at_ _ _ _ ek hm) hc
      obtain ⟨v, ev, rv⟩ := rr.zget hz
      refine ⟨_, v, rfl, .inl ⟨_, k, hd, keyP_rp r2.toRp, ?_⟩, q A2 _ v r H2 (t1.trans t2) s2 rv f⟩
      rw [← ev, valV_zip]
/-- a slot's dict, data at a key -/
theorem ep_dgetC {x kc : Nat} {c : MC} (e : Γ[x]? = some (some (.c kc))) (hm : M[kc]? = some c) (hc : c = .d ks ds ∨ ∃ u, c = .f u ks ds) (h2 : EP K ty Γ M (keyP k)) (hz : zget ks ds k = some (.v p)) : EP K (tDGet (tVar x) ty) Γ M p :=
  ev_dget (ev_var e ⟨kc, rfl, ev_ep h2 ⟨k, ks, ds, _, c, rfl, hm, hc, hz, rfl, rfl⟩⟩)
theorem din_aux {X : Addr → Prop} {A : List Addr} {H : Hp} {a : Addr} {c : MC} {y : V} (h : CellAt K X A H a c) (hc : c = .d ks ds ∨ ∃ u, c = .f u ks ds) (hy : y = kV k) : ∃ o, DGet H a y o ∧ o.isSome = (zget ks ds k).isSome := by
  obtain ⟨vs, hd, l, rr⟩ := cell_dget h hc
  exact ⟨zget ks vs k, .inl ⟨_, k, hd, hy, by rw [valV_zip]⟩, zget_some rr.length⟩
theorem ep_din {x kc : Nat} {c : MC} (h2 : EP K ty Γ M (keyP k)) (e : Γ[x]? = some (some (.c kc))) (hm : M[kc]? = some c) (hc : c = .d ks ds ∨ ∃ u, c = .f u ks ds) : EP K (tDIn ty (tVar x)) Γ M (.bl (zget ks ds k).isSome) := fun X A σ H s Q q =>
  h2 X A σ H s _ fun A1 M1 v1 d1 H1 t1 s1 r1 ⟨e1, e2⟩ => by
    subst e1 e2
    obtain ⟨v, ev, r⟩ := s1.sl.at_ x _ e
    cases r with
    | c ek =>
      obtain ⟨o, g, eo⟩ := din_aux (s1.ce.at_ _ _ _ ek hm) hc (keyP_rp r1.toRp)
      exact ⟨_, ev, _, o, rfl, g, by rw [eo]; exact q A1 _ _ _ H1 t1 s1 (.v (.bl _)) ⟨rfl, rfl⟩⟩
theorem ep_dnotin {x kc : Nat} {c : MC} (h2 : EP K ty Γ M (keyP k)) (e : Γ[x]? = some (some (.c kc))) (hm : M[kc]? = some c) (hc : c = .d ks ds ∨ ∃ u, c = .f u ks ds) : EP K (tDNotIn ty (tVar x)) Γ M (.bl (!(zget ks ds k).isSome)) := fun X A σ H s Q q =>
  h2 X A σ H s _ fun A1 M1 v1 d1 H1 t1 s1 r1 ⟨e1, e2⟩ => by
    subst e1 e2
    obtain ⟨v, ev, r⟩ := s1.sl.at_ x _ e
    cases r with
    | c ek =>
      obtain ⟨o, g, eo⟩ := din_aux (s1.ce.at_ _ _ _ ek hm) hc (keyP_rp r1.toRp)
      exact ⟨_, ev, _, o, rfl, g, by rw [eo]; exact q A1 _ _ _ H1 t1 s1 (.v (.bl _)) ⟨rfl, rfl⟩⟩
theorem ep_dinP (h2 : EP K ty Γ M (keyP k)) (h : EP K td Γ M (.dct ks ps)) : EP K (tDIn ty td) Γ M (.bl (zget ks ps k).isSome) := fun X A σ H s Q q =>
  h2 X A σ H s _ fun A1 M1 v1 d1 H1 t1 s1 r1 ⟨e1, e2⟩ => by
    subst e1 e2
    refine h X A1 σ H1 s1 _ fun A2 M2 v2 d2 H2 t2 s2 r2 ⟨e1, e2⟩ => ?_
    subst e1 e2
    obtain ⟨d, vs, ea, hd, _, l, r⟩ := r2.toRp.dctOf
    refine ⟨d, _, ea, by rw [keyP_rp r1.toRp]; exact DGet.k hd, ?_⟩
    rw [valV_zip, zget_some r.length]
    exact q A2 _ _ _ H2 (t1.trans t2) s2 (.v (.bl _)) ⟨rfl, rfl⟩
/-- {} -/
theorem ev_dnew (f : Φ (M ++ [.d [] []]) (.c M.length)) : EV K tDNewK Γ M Φ := fun X A σ H s Q q p hp => by
  have hx : ¬ X p := fun z => by
    obtain ⟨o, e⟩ := s.ce.xs p z
    rw [hp] at e
    cases e
  refine q (A ++ [p]) _ _ (.c M.length) _ ((Tr.ofSame (same_new hp)).cell hp) ((s.fresh hp).cell hx (c := .d [] []) ⟨[], upd_same, rfl, .nil⟩) (.c ?_) f
  rw [List.getElem?_append_right (by rw [s.ce.len]; exact Nat.le_refl _), s.ce.len, Nat.sub_self]
  rfl
/-- the pairs of a display, as arguments -/
def flatT : List (TE × TE) → TA
  | [] => tNil
  | (a, b) :: r => tCons a (tCons b (flatT r))
def pairV : List V → List (V × V)
  | x :: y :: r => (x, y) :: pairV r
  | _ => []
theorem tPairs_flat : ∀ (trs : List (TE × TE)) (σ : L2.St) (H : Hp) (Q : List (V × V) → Hp → Prop), tPairs trs σ H Q = flatT trs σ H (fun vs H' => Q (pairV vs) H')
  | [], _, _, _ => rfl
  | (a, b) :: r, σ, H, Q => by
    show (a σ H fun x H1 => b σ H1 fun y H2 => tPairs r σ H2 fun ps H3 => Q ((x, y) :: ps) H3) = (a σ H fun x H1 => b σ H1 fun y H2 => flatT r σ H2 fun vs H3 => Q ((x, y) :: pairV vs) H3)
    congr 1
    funext x H1
    congr 1
    funext y H2
    exact tPairs_flat r σ H2 _
def interD : List Key → List D → List D
  | k :: ks, d :: ds => .v (keyP k) :: d :: interD ks ds
  | _, _ => []
theorem inter_vals {X : Addr → Prop} {A : List Addr} {H : Hp} : ∀ {ks : List Key} {es : List D} {vs : List V}, ks.length = es.length → RDs K X A H vs (interD ks es) → ∃ ws, pairV vs = (ks.zip ws).map (fun kv => (kV kv.1, kv.2)) ∧ ks.length = ws.length ∧ RDs K X A H ws es
  | [], [], _, _, r => by cases r; exact ⟨[], rfl, rfl, .nil⟩
  | k :: ks, e :: es, _, h, r => by
    cases r with
    | cons r1 r =>
      cases r with
      | cons r2 r =>
        obtain ⟨ws, e1, l, rr⟩ := inter_vals (by simpa using h) r
        refine ⟨_ :: ws, ?_, by simp [l], .cons r2 rr⟩
        rw [List.zip_cons_cons, List.map_cons, ← e1, ← keyP_rp r1.toRp]
        rfl
  | [], _ :: _, _, h, _ => by simp at h
  | _ :: _, [], _, h, _ => by simp at h
theorem put_new {kvs : List (Key × V)} {k : Key} {v : V} (h : k ∉ kvs.map (·.1)) : putK kvs k v = kvs ++ [(k, v)] := by
  unfold putK
  rw [if_neg]
  intro z
  obtain ⟨x, hx, e⟩ := List.any_eq_true.mp z
  exact h (List.mem_map.mpr ⟨x, hx, of_decide_eq_true e⟩)
theorem merge_new : ∀ {more kvs : List (Key × V)}, (kvs.map (·.1) ++ more.map (·.1)).Nodup → mergeK kvs more = kvs ++ more
  | [], kvs, _ => by rw [List.append_nil]; rfl
  | (k, v) :: more, kvs, h => by
    have h1 : k ∉ kvs.map (·.1) := fun z => (List.nodup_append.mp h).2.2 k z k (by simp) rfl
    show mergeK (putK kvs k v) more = _
    rw [put_new h1, merge_new]
    · simp
    · simpa using h
/-- {k: v, ..} -/
theorem ev_disp {trs : List (TE × TE)} (h : EA K (flatT trs) Γ M fun M1 ds => ∃ ks es, ds = interD ks es ∧ ks.length = es.length ∧ ks.length ≤ 15 ∧ ks.Nodup ∧ Φ (M1 ++ [.d ks es]) (.c M1.length)) : EV K (tDisp trs) Γ M Φ := fun X A σ H s Q q p hp => by
  rw [tPairs_flat]
  refine h (X1 X p) A σ _ (s.fresh hp) _ fun A1 M1 vs ds H1 t1 s1 r1 ⟨ks, es, ed, hl, h15, nd, f⟩ => ?_
  subst ed
  have hx : ¬ X p := fun z => by
    obtain ⟨o, e⟩ := s.ce.xs p z
    rw [hp] at e
    cases e
  have hpA : p ∉ A1 := s1.ce.dj p (.inr rfl)
  have hp1 : H1 p = some (.dK []) := t1.keep p _ upd_same fun z => by
    obtain ⟨B, e, _⟩ := t1.ext
    exact hpA (by rw [e]; exact List.mem_append_left _ z)
  obtain ⟨ws, e1, l, rr⟩ := inter_vals hl r1
  refine ⟨hp1, ks.zip ws, e1, by rw [List.length_zip]; omega, ?_⟩
  have ez : (ks.zip ws).map (·.1) = ks := by
    rw [List.map_fst_zip (by omega)]
  rw [merge_new (by rw [ez]; simpa using nd), List.nil_append]
  have s2 := s1.updX (o := .dK (ks.zip ws)) (.inr rfl : (X1 X p) p)
  have tx : TrX (X1 X p) A1 H1 (X1 X p) A1 (upd H1 p (.dK (ks.zip ws))) := ⟨fun a u e n => by
    rw [upd_ne (show a ≠ p from fun z => n (.inl (.inr z)))]
    exact e, fun a u e n => n⟩
  have hp0 : H p = none := hp
  refine q (A1 ++ [p]) _ _ (.c M1.length) _ (Tr.cell ?_ hp0) (s2.cell hx (c := .d ks es) ⟨ws, upd_same, l, rr.trx tx fun _ _ e => e⟩) (.c ?_) f
  · obtain ⟨B, e, fB⟩ := t1.ext
    refine ⟨⟨B, e, fun b hb => ?_⟩, fun a o ea na => ?_, fun a o ea => ?_⟩
    · have := fB b hb
      by_cases z : b = p
      · rw [z]; exact hp
      · rwa [upd_ne z] at this
    · have ne : a ≠ p := fun z => by rw [z, hp] at ea; cases ea
      rw [upd_ne ne]
      exact t1.keep a o (by rw [upd_ne ne]; exact ea) na
    · have ne : a ≠ p := fun z => by rw [z, hp] at ea; cases ea
      obtain ⟨o', e'⟩ := t1.stay a o (by rw [upd_ne ne]; exact ea)
      exact ⟨o', by rw [upd_ne ne]; exact e'⟩
  · rw [List.getElem?_append_right (by rw [s1.ce.len]; exact Nat.le_refl _), s1.ce.len, Nat.sub_self]
    rfl
end
section
variable {K : PySem.W.Frag} {n : Nat} {td ty tv : TE} {tar : TA} {g : TG} {tb : TS} {Γ : Env} {M : Mem} {E : DE} {p q : P} {ks : List Key} {ps : List P} {ds : List D} {k : Key}
/-- d[y] = v -/
theorem sv_dput (h : EV K tv Γ M fun M1 d => EV K td Γ M1 fun M2 c => ∃ kc, c = .c kc ∧ EV K ty Γ M2 fun M3 e => ∃ k ks ds, e = .v (keyP k) ∧ M3[kc]? = some (.d ks ds) ∧ ks.length < sizeLine ∧ E.nx Γ (M3.set kc (.d (zputK ks k) (zputV ks ds k d)))) : SV K n (sDPut td ty tv) Γ M E := fun X A0 H0 l A σ H Dd tr s z =>
  h X A σ H s _ fun A1 M1 v1 d1 H1 t1 s1 r1 h2 => h2 X A1 σ H1 s1 _ fun A2 M2 v2 d2 H2 t2 s2 r2 ⟨kc, e2, h3⟩ => by
    subst e2
    cases r2 with
    | c ek =>
      rename_i a
      refine h3 X A2 σ H2 s2 _ fun A3 M3 v3 d3 H3 t3 s3 r3 ⟨k, ks, ds, e3, em, hl, f⟩ => ?_
      subst e3
      have ek3 : A3[kc]? = some a := by
        obtain ⟨B, q, _⟩ := t3.ext
        rw [q, List.getElem?_append_left (List.getElem?_eq_some_iff.mp ek).1]
        exact ek
      obtain ⟨vs, hx, hv, rx⟩ := s3.ce.at_ kc a _ ek3 em
      have rv := t3.rd (t2.rd r1)
      have tp : Tr A3 H3 A3 (upd H3 a (.dK ((zputK ks k).zip (zputV ks vs k v1)))) := ⟨⟨[], by simp, by simp⟩, fun b u q n => by
        rw [upd_ne (show b ≠ a from fun z => n (by rw [z]; exact List.mem_of_getElem? ek3))]
        exact q, fun b u q => by
        by_cases h : b = a
        · rw [h]; exact ⟨_, upd_same⟩
        · rw [upd_ne h]; exact ⟨u, q⟩⟩
      obtain ⟨t4, s4⟩ := s3.put (c := .d (zputK ks k) (zputV ks ds k d1)) ek3 ⟨zputV ks vs k v1, upd_same, zput_length hv, tp.rds (RDs.zput rv rx)⟩
      refine ⟨a, _, rfl, .inl ⟨_, k, hx, keyP_rp r3.toRp, by rw [List.length_zip]; omega, rfl⟩, ?_⟩
      rw [putK_zip hv]
      exact z.nx A3 _ Γ σ _ ((((tr.trans t1).trans t2).trans t3).trans t4) s4 f
/-- a slot's dict gets data at a key -/
theorem sv_dputS {x kc : Nat} (e : Γ[x]? = some (some (.c kc))) (hm : M[kc]? = some (.d ks ds)) (hl : ks.length < sizeLine) (h1 : EP K tv Γ M p) (h2 : EP K ty Γ M (keyP k)) (f : E.nx Γ (M.set kc (.d (zputK ks k) (zputV ks ds k (.v p))))) : SV K n (sDPut (tVar x) ty tv) Γ M E :=
  sv_dput (ev_ep h1 (ev_var e ⟨kc, rfl, ev_ep h2 ⟨k, ks, ds, rfl, hm, hl, f⟩⟩))
/-- the result is a tuple that holds cells: they become data -/
theorem sv_retT (h : EA K tar Γ M fun M1 ds => ∃ ps, Fzs n M1 ds ps ∧ ps.length ≤ sizeLine ∧ (M1.take n).all (lowC n) = true ∧ n ≤ M1.length ∧ E.rt (M1.take n) (.v (.tup ps))) : SV K n (tRet (tTup tar)) Γ M E := fun X A0 H0 l A σ H Dd tr s z =>
  h X A σ H s _ fun A1 M1 vs ds H1 t1 s1 r1 ⟨ps, fz, hl, hM, hn, f⟩ => by
    have rr := Fzs.rps s1.ce fz r1
    refine ⟨by rw [Rps.length rr]; exact hl, fun p hp => ?_⟩
    have t2 := tr.trans t1
    obtain ⟨B, eA, fB⟩ := t2.ext
    have tk : A1.take n = A0 := by rw [eA, ← l, List.take_left]
    have lenA : A1.length = M1.length := s1.ce.len
    rw [tk] at rr
    have s2 : St K X A0 (M1.take n) (σ.map fun _ => none) σ H1 := by
      refine ⟨⟨?_, ?_, fun k a m e1 e2 => ?_, s1.ce.xs, fun a zz hh => s1.ce.dj a zz (by rw [eA]; exact List.mem_append_left _ hh)⟩, by simp, fun i d e => by simp at e⟩
      · rw [← tk]; exact s1.ce.nd.sublist (List.take_sublist _ _)
      · rw [List.length_take]; omega
      · have hk : k < n := by
          have := (List.getElem?_eq_some_iff.mp e1).1; omega
        have lw := List.all_eq_true.mp hM m (List.mem_of_getElem? e2)
        rw [List.getElem?_take_of_lt hk] at e2
        have h := s1.ce.at_ k a m (by rw [eA, List.getElem?_append_left (by omega)]; exact e1) e2
        have low : ∀ {v : List V} {d : List D}, RDs K X A1 H1 v d → d.all (lowD n) = true → RDs K X A0 H1 v d := fun r q => by
          have := r.low q
          rwa [tk] at this
        cases m with
        | l ds => obtain ⟨xs, h1, h2⟩ := h; exact ⟨xs, h1, low h2 lw⟩
        | o C ks ds => obtain ⟨dx, xs, h1, h2, h3⟩ := h; exact ⟨dx, xs, h1, h2, low h3 lw⟩
        | d ks ds => obtain ⟨xs, h1, h2, h3⟩ := h; exact ⟨xs, h1, h2, low h3 lw⟩
        | t ks ds => obtain ⟨xs, h1, h2, h3⟩ := h; exact ⟨xs, h1, h2, low h3 lw⟩
        | f u ks ds => obtain ⟨xs, h1, h2, h3⟩ := h; exact ⟨xs, h1, h2, low h3 lw⟩
    have t3 : Tr A0 H0 A0 H1 := ⟨⟨[], by simp, by simp⟩, t2.keep, t2.stay⟩
    refine z.rt A0 (M1.take n) (σ.map fun _ => none) σ _ (.ref p) (.v (.tup ps)) (t3.trans (.ofSame (same_new hp))) (s2.same (same_new hp)) (.v (Rp.newT s2.ce.xa hp rr)) f
/-- for k in d: the dict stands locked -/
theorem sv_keys {x kc : Nat} (ex : Γ[x]? = some (some (.c kc))) (hm : M[kc]? = some (.d ks ds)) (I : HO → Nat → Env → Mem → Prop) (h0 : ∀ u, I u 0 Γ (M.set kc (.f u ks ds)))
    (turn : ∀ u i k Γ1 M1, ks[i]? = some k → I u i Γ1 M1 → GV K g (keyP k) Γ1 M1 fun Γ2 => SV K M.length tb Γ2 M1 { nx := NI K M.length (I u (i + 1)), ct := NI K M.length (I u (i + 1)), bk := fun _ _ => False, rt := fun _ _ => False })
    (stays : ∀ u i Γ1 M1, I u i Γ1 M1 → M1[kc]? = some (.f u ks ds)) (done : ∀ u Γ1 M1, I u ks.length Γ1 M1 → E.nx Γ1 (M1.set kc (.d ks ds))) : SV K n (tLock (tFor (iKeys (tVar x)) g tb)) Γ M E := fun X A0 H0 l A σ H Dd tr s z => by
  obtain ⟨v, ev, r⟩ := s.sl.at_ x _ ex
  cases r with
  | c ek =>
    rename_i a
    obtain ⟨vs, hx, hv, rx⟩ := s.ce.at_ kc a _ ek hm
    refine ⟨a, .dK (ks.zip vs), hx, True.intro, fun od => ?_⟩
    have hlen : (ks.zip vs).length = ks.length := by rw [List.length_zip]; omega
    have tput : ∀ {A1 : List Addr} {H1 : Hp} (u : HO), A1[kc]? = some a → Tr A1 H1 A1 (upd H1 a u) := fun {A1 H1} u ek => ⟨⟨[], by simp, by simp⟩, fun b u q n => by
      rw [upd_ne (show b ≠ a from fun z => n (by rw [z]; exact List.mem_of_getElem? ek))]
      exact q, fun b u q => by
      by_cases h : b = a
      · rw [h]; exact ⟨_, upd_same⟩
      · rw [upd_ne h]; exact ⟨u, q⟩⟩
    generalize hU : HO.frz od (.dK (ks.zip vs)) = U
    obtain ⟨t1, s1⟩ := s.put (c := .f U ks ds) ek ⟨vs, ⟨upd_same, od, hU.symm⟩, hv, (tput U ek).rds rx⟩
    have lenM : A.length = M.length := s.ce.len
    have at' : ∀ {i : Nat} {A' : List Addr} {M' : Mem} {Γ' : Env} {σ' : L2.St} {H' : Hp}, Tr A (upd H a U) A' H' → St K X A' M' Γ' σ' H' → I U i Γ' M' → A'[kc]? = some a ∧ H' a = some (.frz od (.dK (ks.zip vs))) ∧ RDs K X A' H' vs ds := fun {i A' M' Γ' σ' H'} t' s' hI => by
      obtain ⟨B, e, _⟩ := t'.ext
      have ek' : A'[kc]? = some a := by
        rw [e, List.getElem?_append_left (List.getElem?_eq_some_iff.mp ek).1]
        exact ek
      obtain ⟨vs', ⟨e1, o, eu⟩, l', r'⟩ := s'.ce.at_ kc a _ ek' (stays U i Γ' M' hI)
      rw [← hU] at eu
      injection eu with eu1 eu2
      injection eu2 with eu2
      have ev : vs = vs' := by
        have h1 : (ks.zip vs).map (·.2) = vs := List.map_snd_zip (by omega)
        have h2 : (ks.zip vs').map (·.2) = vs' := List.map_snd_zip (by omega)
        rw [← h1, ← h2, eu2]
      rw [← ev] at r'
      exact ⟨ek', by rw [hU]; exact e1, r'⟩
    refine ⟨.ref a, ev, a, od, rfl, .inl ⟨_, by rw [hU]; exact upd_same, ?_⟩⟩
    refine for_it walk_keys (fun i σ' H' => ∃ A' M' Γ', Tr A (upd H a U) A' H' ∧ St K X A' M' Γ' σ' H' ∧ I U i Γ' M') ⟨A, _, Γ, .refl, s1, h0 U⟩ (fun i σ' H' _ ⟨A', M', Γ', t', s', hI⟩ => (at' t' s' hI).2.1) ?_ ?_
    · rintro i y σ' H' H2 hlt ⟨A', M', Γ', t', s', hI⟩ ⟨e2, k, w, ekv, ey⟩
      subst e2 ey
      have ekk : ks[i]? = some k := by
        have := congrArg (Option.map (·.1)) ekv
        rw [← List.getElem?_map, List.map_fst_zip (by omega)] at this
        exact this
      refine turn U i k Γ' M' ekk hI X A' σ' H2 (kV k) s' (rp_keyP k) _ fun Γ2 σ2 s3 sv => ?_
      refine sv X A (upd H a U) lenM A' σ2 H2 _ t' s3 ⟨fun A3 M3 Γ3 σ3 H3 t3 s3 e => ?_, fun _ _ _ _ _ _ _ _ _ _ e => e.elim, fun _ _ _ _ _ _ _ e => e.elim, fun A3 M3 Γ3 σ3 H3 t3 s3 e => ?_⟩
      all_goals
        obtain ⟨Γ4, M4, nm, hI4⟩ := e
        obtain ⟨A4, t4, s4⟩ := nm X A A3 _ H3 σ3 lenM t3 s3
        exact ⟨A4, M4, Γ4, t4, s4, hI4⟩
    · rintro σ' H' ⟨A', M', Γ', t', s', hI⟩
      rw [hlen] at hI
      obtain ⟨ek', e1, r'⟩ := at' t' s' hI
      refine ⟨by rw [← hU]; exact e1, ?_⟩
      obtain ⟨t5, s5⟩ := s'.put (c := .d ks ds) ek' ⟨vs, upd_same, hv, (tput (.dK (ks.zip vs)) ek').rds r'⟩
      exact z.nx A' _ Γ' σ' _ (((tr.trans t1).trans t').trans t5) s5 (done U Γ' M' hI)
end
end Z
set_option maxRecDepth 100000
set_option maxHeartbeats 4000000
/-! The calculus: further rules (three names at once, a dict's key and a name, slices, small facts). -/
namespace Z
open PySem PySem.Spec PyProof.Rows L2
theorem sv_par3 {K : PySem.W.Frag} {n : Nat} {Γ : Env} {M : Mem} {E : DE} {i j l : Nat} {ta : TA} (h : EA K ta Γ M fun M' ds => ∃ d e f, ds = [d, e, f] ∧ E.nx (((Γ.set i (some d)).set j (some e)).set l (some f)) M') : SV K n (tPar3 i j l ta) Γ M E := fun X A0 H0 l A σ H Dd tr s z =>
  h X A σ H s _ fun A1 M1 vs ds H1 t1 s1 r ⟨d, e, f, ed, hf⟩ => by
    subst ed
    cases r with
    | cons r1 r2 =>
      cases r2 with
      | cons r2 r3 =>
        cases r3 with
        | cons r3 r4 =>
          cases r4
          exact ⟨_, _, _, rfl, z.nx A1 M1 _ _ H1 (tr.trans t1) ⟨s1.ce, ((s1.sl.set i r1).set j r2).set _ r3⟩ hf⟩
theorem ev_bxD {K : PySem.W.Frag} {α : Type} {args : α → List P} {pre : α → Prop} {cost : α → Nat} {res : α → P → Prop} {Γ : Env} {M : Mem} {Φ : Mem → D → Prop} {tar : TA} {E : XK} {x kc : Nat} (e : Γ[x]? = some (some (.c kc)))
    (h : EA K tar Γ M fun M1 ds => ∃ c n y, ds = (args y).map .v ∧ M1[kc]? = some c ∧ Bx n c ∧ n + cost y ≤ 1000000000 ∧ pre y ∧ ∀ p c', res y p → Bx (n + cost y) c' → Φ (M1.set kc c') (.v p)) :
    EV K (tCall (BF K args pre cost res) [] E (tCons (tVar x) tar)) Γ M Φ :=
  ev_callB (ea_cons (ev_var e (h.imp fun M1 ds ⟨c, n, y, h1, h2, h3, h4, h5, h6⟩ => ⟨kc, c, n, y, by rw [h1], h2, h3, h4, h5, h6⟩)))
theorem fzs_map {α : Type} {n : Nat} {M : Mem} {f : α → P} : ∀ l : List α, Fzs n M (l.map fun w => .v (f w)) (l.map f)
  | [] => .nil
  | w :: l => .cons (.v _) (fzs_map l)
theorem map_sh {α : Type} (n : Nat) {f : α → P} (l : List α) : (l.map fun w => D.v (f w)).map (shD n) = l.map fun w => D.v (f w) := by
  rw [List.map_map]; rfl
theorem atI_last {α : Type} {xs : List α} {x : α} : atI (xs ++ [x]) (-1) = some x := by
  unfold atI
  have e : ixN (xs ++ [x]).length (-1) = some xs.length := by
    unfold ixN
    rw [if_neg (by omega), List.length_append, List.length_singleton]
    rw [if_pos (by omega)]
    congr 1
    omega
  rw [e]
  show (xs ++ [x])[xs.length]? = some x
  rw [List.getElem?_append_right (Nat.le_refl _), Nat.sub_self]
  rfl
theorem in_ints {ns : List Int} {p : P} (h : p ∈ ns.map P.int) : ∃ n ∈ ns, p = .int n := by
  obtain ⟨n, hn, rfl⟩ := List.mem_map.mp h
  exact ⟨n, hn, rfl⟩
theorem EI.imp {K : PySem.W.Frag} {wi : TI} {Γ : Env} {M : Mem} {Φ Ψ : Mem → List P → Prop} (h : EI K wi Γ M Φ) (i : ∀ M' its, Φ M' its → Ψ M' its) : EI K wi Γ M Ψ := fun X A σ H s R q => h X A σ H s R fun A' M' its J H' t s' wk f => q A' M' its J H' t s' wk (i _ _ f)
theorem ev_sl {K : PySem.W.Frag} {Γ : Env} {M : Mem} {te : TE} {tl th : TO} {r : V → Option Int → Option Int → Hp → VK → Prop} {Φ : Mem → D → Prop} (h : EV K te Γ M fun M1 d => ∃ p lo hi z, d = .v p ∧ EO2 K tl Γ M1 lo ∧ EO2 K th Γ M1 hi ∧ SLV K r p lo hi z ∧ Φ M1 (.v z)) : EV K (tSl r te tl th) Γ M Φ := fun X A σ H s Q q =>
  h X A σ H s _ fun A1 M1 v d H1 t1 s1 r1 ⟨p, lo, hi, z, e1, h1, h2, hr, f⟩ => by
    subst e1
    exact h1 X A1 σ H1 s1 _ fun A2 H2 t2 s2 => h2 X A2 σ H2 s2 _ fun A3 H3 t3 s3 =>
      hr (XA X A3) H3 v s3.ce.xa (t3.rp (t2.rp r1.toRp)) Q fun w H' sm rz => q A3 _ w (.v z) H' (((t1.trans t2).trans t3).trans (.ofSame sm)) (s3.same sm) (.v rz) f
theorem flat_rep {u : Int} {n : Nat} : (List.replicate n [P.int u]).flatten = (List.replicate n u).map P.int := by
  induction n with
  | zero => rfl
  | succ n ih => rw [List.replicate_succ, List.flatten_cons, ih, List.replicate_succ, List.map_cons]; rfl
theorem cut_to {ns : List Int} {n : Nat} : cutP (ns.map P.int) none (some (n : Int)) = (ns.take n).map P.int := by
  unfold cutP
  have e1 : HT.sIx (ns.map P.int).length 0 none = 0 := rfl
  have e2 : HT.sIx (ns.map P.int).length (ns.map P.int).length (some (n : Int)) = min n (ns.map P.int).length := HT.sIx_nat _ _ n
  rw [e1, e2, List.drop_zero, Nat.sub_zero, List.map_take]
  rw [List.take_eq_take_iff]
  omega
theorem sq_items {b : Bool} {ps : List P} : itemsP (sqP b ps) = some ps := by cases b <;> rfl

def oiP : Option Int → P
  | none => .non
  | some i => .int i
theorem pEq_oi (x : Option Int) : pEq (oiP x) (oiP x) = true := by
  cases x <;> simp [oiP, pEq, py, PyData.eqv]
theorem okd_oi (x : Option Int) : okd 8 (oiP x) = true := by
  cases x <;> rfl
theorem okq_oi {n : Nat} (x : Option Int) : okq n (oiP x) = true := by
  cases x
  · exact okq_non
  · exact okq_int
/-- a tuple that holds cells -/
theorem ev_tupD {K : PySem.W.Frag} {Γ : Env} {M : Mem} {Φ : Mem → D → Prop} {tar : TA} (h : EA K tar Γ M fun M1 ds => ds.length ≤ sizeLine ∧ Φ M1 (.t ds)) : EV K (tTup tar) Γ M Φ := fun X A σ H s Q k =>
  h X A σ H s _ fun A1 M1 vs ds H1 t1 s1 r1 ⟨hl, f⟩ => by
    refine ⟨by rw [r1.length]; exact hl, fun p hp => ?_⟩
    refine k A1 _ _ (.t ds) _ (t1.trans (.ofSame (same_new hp))) (s1.same (same_new hp)) (.t (.inl upd_same) (fun z => ?_) ((Tr.ofSame (same_new hp)).rds r1)) f
    obtain ⟨o, e⟩ := s1.ce.xa p z
    rw [e] at hp
    cases hp
/-- d[y], name = x, z : data -/
theorem sv_asgDN {K : PySem.W.Frag} {n : Nat} {Γ : Env} {M : Mem} {E : DE} {x j kc : Nat} {ta : TA} {ty : TE} {p q : P} {ks : List Key} {ds : List D} {k : Key} (ex : Γ[x]? = some (some (.c kc))) (hm : M[kc]? = some (.d ks ds)) (hl : ks.length < sizeLine)
    (h : EPs K ta Γ M [p, q]) (h2 : EP K ty Γ M (keyP k)) (f : E.nx (Γ.set j (some (.v q))) (M.set kc (.d (zputK ks k) (zputV ks ds k (.v p))))) : SV K n (tAsg (tTup ta) (gTup K 2 (gCons (gSub (tVar x) ty rSetD) (gCons (gName j) gNil)))) Γ M E := fun X A0 H0 l A σ H Dd tr s z => by
  refine ep_tup h (Nat.le_of_ble_eq_true rfl) X A σ H s _ fun A1 M1 v d H1 t1 s1 r ⟨e1, e2⟩ => ?_
  subst e1 e2
  obtain ⟨a, xs, ea, hq, rs⟩ := r.toRp.tupOf
  subst ea
  cases rs with
  | cons r1 rs =>
    cases rs with
    | cons r2 rs =>
      cases rs
      rename_i v1 v2
      obtain ⟨vx, ev, rx⟩ := s1.sl.at_ x _ ex
      cases rx with
      | c ek =>
        rename_i b
        refine ⟨a, _, rfl, hq, rfl, v1, [v2], rfl, .ref b, ev, ?_⟩
        refine h2 X A1 σ H1 s1 _ fun A2 M2 w d H2 t2 s2 rw' ⟨e1, e2⟩ => ?_
        subst e1 e2
        have ek3 : A2[kc]? = some b := by
          obtain ⟨B, q, _⟩ := t2.ext
          rw [q, List.getElem?_append_left (List.getElem?_eq_some_iff.mp ek).1]
          exact ek
        obtain ⟨vs, hx, hv, rx⟩ := s2.ce.at_ kc b _ ek3 hm
        have rv : RD K X A2 H2 v1 (.v p) := .v (t2.rp r1)
        have rv2 : RD K X A2 H2 v2 (.v q) := .v (t2.rp r2)
        have tp : Tr A2 H2 A2 (upd H2 b (.dK ((zputK ks k).zip (zputV ks vs k v1)))) := ⟨⟨[], by simp, by simp⟩, fun b' u q n => by
          rw [upd_ne (show b' ≠ b from fun z => n (by rw [z]; exact List.mem_of_getElem? ek3))]
          exact q, fun b' u q => by
          by_cases h : b' = b
          · rw [h]; exact ⟨_, upd_same⟩
          · rw [upd_ne h]; exact ⟨u, q⟩⟩
        obtain ⟨t4, s4⟩ := s2.put (c := .d (zputK ks k) (zputV ks ds k (.v p))) ek3 ⟨zputV ks vs k v1, upd_same, zput_length hv, tp.rds (RDs.zput rv rx)⟩
        refine ⟨b, _, rfl, .inl ⟨_, k, hx, keyP_rp rw'.toRp, by rw [List.length_zip]; omega, rfl⟩, ?_⟩
        rw [putK_zip hv]
        exact ⟨v2, [], rfl, rfl, z.nx A2 _ _ _ _ (((tr.trans t1).trans t2).trans t4) ⟨s4.ce, s4.sl.set j (t4.rd rv2)⟩ f⟩
end Z
set_option maxRecDepth 100000
set_option maxHeartbeats 4000000
namespace R78
open PySem PySem.Spec PyProof.Rows L2 Z
def top (i : Nat) : Stmt := PySem.Challenge.pw_twoeyes_k78_whole_needed_main_and_two_cl.main.body.getD i (.Pass ⟨0, 0, 0, 0⟩)
structure Mo (K : PySem.W.Frag) (mg : Str → Option Value) : Prop where
  n_abs : mg "abs" = none
  n_all : mg "all" = none
  n_bool : mg "bool" = none
  n_enumerate : mg "enumerate" = none
  n_int : mg "int" = none
  n_isinstance : mg "isinstance" = none
  n_len : mg "len" = none
  n_list : mg "list" = none
  n_max : mg "max" = none
  n_min : mg "min" = none
  n_range : mg "range" = none
  n_str : mg "str" = none
  n_sum : mg "sum" = none
  n_tuple : mg "tuple" = none
  g_BLACK : ∃ t, mg "BLACK" = some (.int 1 t)
  g_MOST_BONUS : ∃ t, mg "MOST_BONUS" = some (.int 10000 t)
  g_MOST_LENGTH : ∃ t, mg "MOST_LENGTH" = some (.int 10000 t)
  g_MOST_MAIN : ∃ t, mg "MOST_MAIN" = some (.int 100000 t)
  g_MOST_PERIODS : ∃ t, mg "MOST_PERIODS" = some (.int 100 t)
  g_MOST_USED : ∃ t, mg "MOST_USED" = some (.int 1000000000000 t)
  g_MOST_USES : ∃ t, mg "MOST_USES" = some (.int 400 t)
  g_WHITE : ∃ t, mg "WHITE" = some (.int 2 t)
  g_Clock : mg "Clock" = some (.ref (He.ga K "Clock"))
abbrev s_is_integer : Stmt := top 11
theorem sc_is_integer : FnScope ["value"] ["value"] (defScope s_is_integer) := ⟨rfl, rfl, rfl, by decide +kernel, rfl, by decide +kernel, by decide +kernel⟩
def t_is_integer (K : PySem.W.Frag) : TS :=
  (tRet (tAndV (tCB (rIsi K) (tCons (tVar 0) (tCons (tC (.ty "int")) tNil))) (tNotV (tCB (rIsi K) (tCons (tVar 0) (tCons (tC (.ty "bool")) tNil))))))
theorem dv_is_integer {P : Program} {w : World} {K : PySem.W.Frag} {mg : Str → Option Value} {base : Heap} {k : Nat} {f : Addr} (m : Mo K mg) :
    Dv P w K mg base (k + 1) ["value"] "is_integer" (defScope s_is_integer) f (defBody s_is_integer) (t_is_integer K) := by
  intro cdv A outer s H E hr
  have sc := sc_is_integer
  exact (pss_one (ps_ret (pe_and (pe_callB call_isi rfl m.n_isinstance boot_isinstance (pa_cons (pv 0) (pa_cons (pe_bltn rfl m.n_int boot_int rfl) pa_nil))) (pe_one (pe_not (pe_callB call_isi rfl m.n_isinstance boot_isinstance (pa_cons (pv 0) (pa_cons (pe_bltn rfl m.n_bool boot_bool rfl) pa_nil))))))))
abbrev s_is_between : Stmt := top 12
theorem sc_is_between : FnScope ["value", "least", "most"] ["value", "least", "most"] (defScope s_is_between) := ⟨rfl, rfl, rfl, by decide +kernel, rfl, by decide +kernel, by decide +kernel⟩
def t_is_between (K : PySem.W.Frag) (sp_is_integer : Sp) : TS :=
  (tRet (tAndV (tCall sp_is_integer [] E0 (tCons (tVar 0) tNil)) (tChain (rI0 fun i j => .bl (decide (i ≤ j))) (rI0 fun i j => .bl (decide (i ≤ j))) (tVar 1) (tVar 0) (tVar 2))))
theorem dv_is_between {P : Program} {w : World} {K : PySem.W.Frag} {mg : Str → Option Value} {base : Heap} {k : Nat} {f : Addr} {sp_is_integer : Sp} (m : Mo K mg) (c_is_integer : Cal P w K mg base k "is_integer" ["value"] sp_is_integer) :
    Dv P w K mg base (k + 1) ["value", "least", "most"] "is_between" (defScope s_is_between) f (defBody s_is_between) (t_is_between K sp_is_integer) := by
  intro cdv A outer s H E hr
  have sc := sc_is_between
  exact (pss_one (ps_ret (pe_and (pe_cal c_is_integer (hr.mono (by omega)) rfl (pa_cons (pv 0) pa_nil)) (pe_one (pe_chain op_le op_le (pv 1) (pv 0) (pv 2))))))
abbrev s_is_list : Stmt := top 13
theorem sc_is_list : FnScope ["value"] ["value"] (defScope s_is_list) := ⟨rfl, rfl, rfl, by decide +kernel, rfl, by decide +kernel, by decide +kernel⟩
def t_is_list (K : PySem.W.Frag) : TS :=
  (tRet (tCB (rIsiT K) (tCons (tVar 0) (tCons (tTup (tCons (tC (.ty "list")) (tCons (tC (.ty "tuple")) tNil))) tNil))))
theorem dv_is_list {P : Program} {w : World} {K : PySem.W.Frag} {mg : Str → Option Value} {base : Heap} {k : Nat} {f : Addr} (m : Mo K mg) :
    Dv P w K mg base (k + 1) ["value"] "is_list" (defScope s_is_list) f (defBody s_is_list) (t_is_list K) := by
  intro cdv A outer s H E hr
  have sc := sc_is_list
  exact (pss_one (ps_ret (pe_callB call_isiT rfl m.n_isinstance boot_isinstance (pa_cons (pv 0) (pa_cons (pe_tup (pa_cons (pe_bltn rfl m.n_list boot_list rfl) (pa_cons (pe_bltn rfl m.n_tuple boot_tuple rfl) pa_nil))) pa_nil)))))
abbrev s_are_between : Stmt := top 14
theorem sc_are_between : FnScope ["values", "least", "most", "value"] ["values", "least", "most"] (defScope s_are_between) := ⟨rfl, rfl, rfl, by decide +kernel, rfl, by decide +kernel, by decide +kernel⟩
def t_are_between (K : PySem.W.Frag) (sp_is_between : Sp) : TS :=
  (tRet (tCB (rAll K) (tCons (tLc (iSeq K (tVar 0)) (gName 3) tYes (tCall sp_is_between [] E0 (tCons (tVar 3) (tCons (tVar 1) (tCons (tVar 2) tNil)))) [3]) tNil)))
theorem dv_are_between {P : Program} {w : World} {K : PySem.W.Frag} {mg : Str → Option Value} {base : Heap} {k : Nat} {f : Addr} {sp_is_between : Sp} (m : Mo K mg) (c_is_between : Cal P w K mg base k "is_between" ["value", "least", "most"] sp_is_between) :
    Dv P w K mg base (k + 1) ["values", "least", "most", "value"] "are_between" (defScope s_are_between) f (defBody s_are_between) (t_are_between K sp_is_between) := by
  intro cdv A outer s H E hr
  have sc := sc_are_between
  exact (pss_one (ps_ret (pe_callB (cr_all rfl) rfl m.n_all boot_all (pa_cons (pe_lc (own := [("value", 3)]) rfl sc.nd (pi_seq (pv 0)) (blkOk_by (N := ["values", "least", "most", "value"]) (sc := defScope s_are_between) (by decide +kernel)) (fun _ _ _ _ _ => (pg_name (i := 3) sc.nd rfl (.inl rfl))) (fun _ _ _ _ _ => pts_nil) (fun _ _ _ _ _ => (pe_cal c_is_between (hr.mono (by omega)) rfl (pa_cons (pv 3) (pa_cons (pv 1) (pa_cons (pv 2) pa_nil)))))) pa_nil))))
abbrev s_other_color : Stmt := top 15
theorem sc_other_color : FnScope ["color"] ["color"] (defScope s_other_color) := ⟨rfl, rfl, rfl, by decide +kernel, rfl, by decide +kernel, by decide +kernel⟩
def t_other_color (K : PySem.W.Frag) : TS :=
  (tRet (tOp (rI0 fun i j => .int (i - j)) (tOp (rPlus K) (tC (.int 1)) (tC (.int 2))) (tVar 0)))
theorem dv_other_color {P : Program} {w : World} {K : PySem.W.Frag} {mg : Str → Option Value} {base : Heap} {k : Nat} {f : Addr} (m : Mo K mg) :
    Dv P w K mg base (k + 1) ["color"] "other_color" (defScope s_other_color) f (defBody s_other_color) (t_other_color K) := by
  intro cdv A outer s H E hr
  have sc := sc_other_color
  obtain ⟨_, g_BLACK⟩ := m.g_BLACK
  obtain ⟨_, g_WHITE⟩ := m.g_WHITE
  exact (pss_one (ps_ret (pe_op op_sub (pe_op op_plus (pe_glob rfl g_BLACK ⟨_, rfl⟩) (pe_glob rfl g_WHITE ⟨_, rfl⟩)) (pv 0))))
abbrev s_check_periods : Stmt := top 23
theorem sc_check_periods : FnScope ["bonus", "periods", "length"] ["bonus", "periods", "length"] (defScope s_check_periods) := ⟨rfl, rfl, rfl, by decide +kernel, rfl, by decide +kernel, by decide +kernel⟩
def t_check_periods (K : PySem.W.Frag) (sp_is_between : Sp) : TS :=
  (tSeq (tIfS (tNot (tB (tCall sp_is_between [] E0 (tCons (tVar 0) (tCons (tC (.int 0)) (tCons (tC (.int 10000)) tNil)))))) tNever
    tNext)
    (tSeq (tIfS (tOr (tNot (tB (tCall sp_is_between [] E0 (tCons (tVar 1) (tCons (tC (.int 0)) (tCons (tC (.int 100)) tNil)))))) (tAnd (tTest (tOp (rI0 fun i j => .bl (decide (j < i))) (tVar 0) (tC (.int 0)))) (tTest (tOp (rI0 fun i j => .bl (decide (j < i))) (tVar 1) (tC (.int 0)))))) tNever
    tNext)
    (tIfS (tNot (tB (tCall sp_is_between [] E0 (tCons (tVar 2) (tCons (tCB (rMinA K) (tCons (tLst (tCons (tVar 1) (tCons (tC (.int 1)) tNil))) tNil)) (tCons (tIf (tTest (tOp (rI0 fun i j => .bl (decide (j < i))) (tVar 1) (tC (.int 0)))) (tC (.int 10000)) (tC (.int 0))) tNil)))))) tNever
    tNext)))
theorem dv_check_periods {P : Program} {w : World} {K : PySem.W.Frag} {mg : Str → Option Value} {base : Heap} {k : Nat} {f : Addr} {sp_is_between : Sp} (m : Mo K mg) (c_is_between : Cal P w K mg base k "is_between" ["value", "least", "most"] sp_is_between) :
    Dv P w K mg base (k + 1) ["bonus", "periods", "length"] "check_periods" (defScope s_check_periods) f (defBody s_check_periods) (t_check_periods K sp_is_between) := by
  intro cdv A outer s H E hr
  have sc := sc_check_periods
  obtain ⟨_, g_MOST_BONUS⟩ := m.g_MOST_BONUS
  obtain ⟨_, g_MOST_PERIODS⟩ := m.g_MOST_PERIODS
  obtain ⟨_, g_MOST_LENGTH⟩ := m.g_MOST_LENGTH
  exact (pss_cons (ps_if (pt_not (pt_val (pe_cal c_is_between (hr.mono (by omega)) rfl (pa_cons (pv 0) (pa_cons pe_int (pa_cons (pe_glob rfl g_MOST_BONUS ⟨_, rfl⟩) pa_nil)))))) (pss_one ps_never)
    pss_nil)
    (pss_cons (ps_if (PW.pt (pw_or (pt_not (pt_val (pe_cal c_is_between (hr.mono (by omega)) rfl (pa_cons (pv 1) (pa_cons pe_int (pa_cons (pe_glob rfl g_MOST_PERIODS ⟨_, rfl⟩) pa_nil)))))) (pw_or1 (PW.pt (pw_and (pt_cmpR op_gt (pv 0) pe_int (nomark _)) (pw_and1 (pt_cmpR op_gt (pv 1) pe_int (nomark _)))))))) (pss_one ps_never)
    pss_nil)
    (pss_one (ps_if (pt_not (pt_val (pe_cal c_is_between (hr.mono (by omega)) rfl (pa_cons (pv 2) (pa_cons (pe_callB (call_minA rfl) rfl m.n_min boot_min (pa_cons (pe_lst (pa_cons (pv 1) (pa_cons pe_int pa_nil))) pa_nil)) (pa_cons (pe_ifExp (pt_cmpR op_gt (pv 1) pe_int (nomark _)) (pe_glob rfl g_MOST_LENGTH ⟨_, rfl⟩) pe_int) pa_nil)))))) (pss_one ps_never)
    pss_nil))))
abbrev s_Clock__init__ : Stmt := inClass (top 24) 0
theorem sc_Clock__init__ : FnScope ["self", "main", "bonus", "periods", "length"] ["self", "main", "bonus", "periods", "length"] (defScope s_Clock__init__) := ⟨rfl, rfl, rfl, by decide +kernel, rfl, by decide +kernel, by decide +kernel⟩
def t_Clock__init__ (K : PySem.W.Frag) (sp_is_between : Sp) (sp_check_periods : Sp) : TS :=
  (tSeq (tIfS (tNot (tB (tCall sp_is_between [] E0 (tCons (tVar 1) (tCons (tC (.int 0)) (tCons (tC (.int 100000)) tNil)))))) tNever
    tNext)
    (tSeq (tDrop (tCall sp_check_periods [] E0 (tCons (tVar 2) (tCons (tVar 3) (tCons (tVar 4) tNil)))))
    (tSeq (sFld K (tVar 0) (tVar 1) "main")
    (tSeq (sFld K (tVar 0) (tVar 2) "bonus")
    (tSeq (sFld K (tVar 0) (tVar 3) "periods")
    (sFld K (tVar 0) (tVar 4) "length"))))))
theorem dv_Clock__init__ {P : Program} {w : World} {K : PySem.W.Frag} {mg : Str → Option Value} {base : Heap} {k : Nat} {f : Addr} {sp_is_between : Sp} {sp_check_periods : Sp} (m : Mo K mg) (c_is_between : Cal P w K mg base k "is_between" ["value", "least", "most"] sp_is_between) (c_check_periods : Cal P w K mg base k "check_periods" ["bonus", "periods", "length"] sp_check_periods) :
    Dv P w K mg base (k + 1) ["self", "main", "bonus", "periods", "length"] "Clock.__init__" (defScope s_Clock__init__) f (defBody s_Clock__init__) (t_Clock__init__ K sp_is_between sp_check_periods) := by
  intro cdv A outer s H E hr
  have sc := sc_Clock__init__
  obtain ⟨_, g_MOST_MAIN⟩ := m.g_MOST_MAIN
  exact (pss_cons (ps_if (pt_not (pt_val (pe_cal c_is_between (hr.mono (by omega)) rfl (pa_cons (pv 1) (pa_cons pe_int (pa_cons (pe_glob rfl g_MOST_MAIN ⟨_, rfl⟩) pa_nil)))))) (pss_one ps_never)
    pss_nil)
    (pss_cons (ps_expr (pe_cal c_check_periods (hr.mono (by omega)) rfl (pa_cons (pv 2) (pa_cons (pv 3) (pa_cons (pv 4) pa_nil)))))
    (pss_cons (ps_fld (pv 0) (pv 1) rfl)
    (pss_cons (ps_fld (pv 0) (pv 2) rfl)
    (pss_cons (ps_fld (pv 0) (pv 3) rfl)
    (pss_one (ps_fld (pv 0) (pv 4) rfl)))))))
abbrev s_check_clock : Stmt := top 25
theorem sc_check_clock : FnScope ["clock"] ["clock"] (defScope s_check_clock) := ⟨rfl, rfl, rfl, by decide +kernel, rfl, by decide +kernel, by decide +kernel⟩
def t_check_clock (K : PySem.W.Frag) : TS :=
  (tIfS (tNot (tB (tCB (rIsi K) (tCons (tVar 0) (tCons (tC (.ref (He.ga K "Clock"))) tNil))))) tNever
    tNext)
theorem dv_check_clock {P : Program} {w : World} {K : PySem.W.Frag} {mg : Str → Option Value} {base : Heap} {k : Nat} {f : Addr} (m : Mo K mg) :
    Dv P w K mg base (k + 1) ["clock"] "check_clock" (defScope s_check_clock) f (defBody s_check_clock) (t_check_clock K) := by
  intro cdv A outer s H E hr
  have sc := sc_check_clock
  exact (pss_one (ps_if (pt_not (pt_val (pe_callB call_isi rfl m.n_isinstance boot_isinstance (pa_cons (pv 0) (pa_cons (pe_glob rfl m.g_Clock rfl) pa_nil))))) (pss_one ps_never)
    pss_nil))
abbrev s_check_uses : Stmt := top 26
theorem sc_check_uses : FnScope ["uses"] ["uses"] (defScope s_check_uses) := ⟨rfl, rfl, rfl, by decide +kernel, rfl, by decide +kernel, by decide +kernel⟩
def t_check_uses (K : PySem.W.Frag) (sp_is_list : Sp) (sp_are_between : Sp) : TS :=
  (tIfS (tOr (tNot (tB (tCall sp_is_list [] E0 (tCons (tVar 0) tNil)))) (tOr (tTest (tOp (rI0 fun i j => .bl (decide (j < i))) (tCB (rLen K) (tCons (tVar 0) tNil)) (tC (.int 400)))) (tNot (tB (tCall sp_are_between [] E0 (tCons (tVar 0) (tCons (tC (.int 0)) (tCons (tC (.int 1000000000000)) tNil)))))))) tNever
    tNext)
theorem dv_check_uses {P : Program} {w : World} {K : PySem.W.Frag} {mg : Str → Option Value} {base : Heap} {k : Nat} {f : Addr} {sp_is_list : Sp} {sp_are_between : Sp} (m : Mo K mg) (c_is_list : Cal P w K mg base k "is_list" ["value"] sp_is_list) (c_are_between : Cal P w K mg base k "are_between" ["values", "least", "most"] sp_are_between) :
    Dv P w K mg base (k + 1) ["uses"] "check_uses" (defScope s_check_uses) f (defBody s_check_uses) (t_check_uses K sp_is_list sp_are_between) := by
  intro cdv A outer s H E hr
  have sc := sc_check_uses
  obtain ⟨_, g_MOST_USES⟩ := m.g_MOST_USES
  obtain ⟨_, g_MOST_USED⟩ := m.g_MOST_USED
  exact (pss_one (ps_if (PW.pt (pw_or (pt_not (pt_val (pe_cal c_is_list (hr.mono (by omega)) rfl (pa_cons (pv 0) pa_nil)))) (pw_or (pt_cmpR op_gt (pe_callB call_len rfl m.n_len boot_len (pa_cons (pv 0) pa_nil)) (pe_glob rfl g_MOST_USES ⟨_, rfl⟩) (nomark _)) (pw_or1 (pt_not (pt_val (pe_cal c_are_between (hr.mono (by omega)) rfl (pa_cons (pv 0) (pa_cons pe_int (pa_cons (pe_glob rfl g_MOST_USED ⟨_, rfl⟩) pa_nil)))))))))) (pss_one ps_never)
    pss_nil))
abbrev s_first_state : Stmt := top 27
theorem sc_first_state : FnScope ["clock"] ["clock"] (defScope s_first_state) := ⟨rfl, rfl, rfl, by decide +kernel, rfl, by decide +kernel, by decide +kernel⟩
def t_first_state (K : PySem.W.Frag) : TS :=
  (tRet (tTup (tCons (tFld K (tVar 0) "main") (tCons (tFld K (tVar 0) "periods") tNil))))
theorem dv_first_state {P : Program} {w : World} {K : PySem.W.Frag} {mg : Str → Option Value} {base : Heap} {k : Nat} {f : Addr} (m : Mo K mg) :
    Dv P w K mg base (k + 1) ["clock"] "first_state" (defScope s_first_state) f (defBody s_first_state) (t_first_state K) := by
  intro cdv A outer s H E hr
  have sc := sc_first_state
  exact (pss_one (ps_ret (pe_tup (pa_cons (pe_fld (pv 0) rfl) (pa_cons (pe_fld (pv 0) rfl) pa_nil)))))
abbrev s_lost_with : Stmt := top 28
theorem sc_lost_with : FnScope ["length", "rest"] ["length", "rest"] (defScope s_lost_with) := ⟨rfl, rfl, rfl, by decide +kernel, rfl, by decide +kernel, by decide +kernel⟩
def t_lost_with (K : PySem.W.Frag) : TS :=
  (tRet (tOp (rI CDiv fun i j => .int (i / j)) (tOp (rI0 fun i j => .int (i - j)) (tVar 1) (tC (.int 1))) (tVar 0)))
theorem dv_lost_with {P : Program} {w : World} {K : PySem.W.Frag} {mg : Str → Option Value} {base : Heap} {k : Nat} {f : Addr} (m : Mo K mg) :
    Dv P w K mg base (k + 1) ["length", "rest"] "lost_with" (defScope s_lost_with) f (defBody s_lost_with) (t_lost_with K) := by
  intro cdv A outer s H E hr
  have sc := sc_lost_with
  exact (pss_one (ps_ret (pe_op op_fdiv (pe_op op_sub (pv 1) pe_int) (pv 0))))
abbrev s_next_state : Stmt := top 29
theorem sc_next_state : FnScope ["clock", "state", "used", "left", "periods", "lost"] ["clock", "state", "used"] (defScope s_next_state) := ⟨rfl, rfl, rfl, by decide +kernel, rfl, by decide +kernel, by decide +kernel⟩
def t_next_state (K : PySem.W.Frag) (sp_lost_with : Sp) : TS :=
  (tSeq (tAsg (tVar 1) (gTup K 2 (gCons (gName 3) (gCons (gName 4) gNil))))
    (tSeq (tIfS (tTest (tOp (rI0 fun i j => .bl (decide (i ≤ j))) (tVar 2) (tVar 3))) (tRet (tTup (tCons (tOp (rPlus K) (tOp (rI0 fun i j => .int (i - j)) (tVar 3) (tVar 2)) (tFld K (tVar 0) "bonus")) (tCons (tVar 4) tNil))))
    tNext)
    (tSeq (tIfS (tTest (tOp (rEqA K) (tVar 4) (tC (.int 0)))) (tRet (tC .non))
    tNext)
    (tSeq (tAsg (tCall sp_lost_with [] E0 (tCons (tFld K (tVar 0) "length") (tCons (tOp (rI0 fun i j => .int (i - j)) (tVar 2) (tVar 3)) tNil))) (gName 5))
    (tRet (tIf (tTest (tOp (rI0 fun i j => .bl (decide (i < j))) (tVar 5) (tVar 4))) (tTup (tCons (tC (.int 0)) (tCons (tOp (rI0 fun i j => .int (i - j)) (tVar 4) (tVar 5)) tNil))) (tC .non)))))))
theorem dv_next_state {P : Program} {w : World} {K : PySem.W.Frag} {mg : Str → Option Value} {base : Heap} {k : Nat} {f : Addr} {sp_lost_with : Sp} (m : Mo K mg) (c_lost_with : Cal P w K mg base k "lost_with" ["length", "rest"] sp_lost_with) :
    Dv P w K mg base (k + 1) ["clock", "state", "used", "left", "periods", "lost"] "next_state" (defScope s_next_state) f (defBody s_next_state) (t_next_state K sp_lost_with) := by
  intro cdv A outer s H E hr
  have sc := sc_next_state
  exact (pss_cons (ps_asg (pv 1) (pg_tup rfl (pgs_cons (pg_name (i := 3) sc.nd rfl (.inl rfl)) (pgs_cons (pg_name (i := 4) sc.nd rfl (.inl rfl)) pgs_nil))))
    (pss_cons (ps_if (pt_cmpR op_le (pv 2) (pv 3) (nomark _)) (pss_one (ps_ret (pe_tup (pa_cons (pe_op op_plus (pe_op op_sub (pv 3) (pv 2)) (pe_fld (pv 0) rfl)) (pa_cons (pv 4) pa_nil)))))
    pss_nil)
    (pss_cons (ps_if (pt_cmpR (op_eqA hr.units) (pv 4) pe_int (nomark _)) (pss_one (ps_ret pe_non))
    pss_nil)
    (pss_cons (ps_set (i := 5) sc.nd rfl (Or.inl rfl) (pe_cal c_lost_with (hr.mono (by omega)) rfl (pa_cons (pe_fld (pv 0) rfl) (pa_cons (pe_op op_sub (pv 2) (pv 3)) pa_nil))))
    (pss_one (ps_ret (pe_ifExp (pt_cmpR op_lt (pv 5) (pv 4) (nomark _)) (pe_tup (pa_cons pe_int (pa_cons (pe_op op_sub (pv 4) (pv 5)) pa_nil))) pe_non)))))))
abbrev s_states_in : Stmt := top 30
theorem sc_states_in : FnScope ["clock", "uses", "found", "used", "state"] ["clock", "uses"] (defScope s_states_in) := ⟨rfl, rfl, rfl, by decide +kernel, rfl, by decide +kernel, by decide +kernel⟩
def t_states_in (K : PySem.W.Frag) (sp_first_state : Sp) (sp_next_state : Sp) : TS :=
  (tSeq (tAsg (tLst (tCons (tCall sp_first_state [] E0 (tCons (tVar 0) tNil)) tNil)) (gName 2))
    (tSeq (tFor (iSeq K (tVar 1)) (gName 3) (tSeq (tAsg (tCall sp_next_state [] E0 (tCons (tVar 0) (tCons (tOp (rIx K) (tVar 2) (tUn (rU fun i => .int (-i)) (tC (.int 1)))) (tCons (tVar 3) tNil)))) (gName 4))
    (tSeq (tIfS (tB (tIsN (tVar 4))) (tRet (tVar 2))
    tNext)
    (tDrop (tBM K "list" rAppend (tVar 2) (tCons (tVar 4) tNil))))))
    (tRet (tVar 2))))
theorem dv_states_in {P : Program} {w : World} {K : PySem.W.Frag} {mg : Str → Option Value} {base : Heap} {k : Nat} {f : Addr} {sp_first_state : Sp} {sp_next_state : Sp} (m : Mo K mg) (c_first_state : Cal P w K mg base k "first_state" ["clock"] sp_first_state) (c_next_state : Cal P w K mg base k "next_state" ["clock", "state", "used"] sp_next_state) :
    Dv P w K mg base (k + 1) ["clock", "uses", "found", "used", "state"] "states_in" (defScope s_states_in) f (defBody s_states_in) (t_states_in K sp_first_state sp_next_state) := by
  intro cdv A outer s H E hr
  have sc := sc_states_in
  exact (pss_cons (ps_set (i := 2) sc.nd rfl (Or.inl rfl) (pe_lst (pa_cons (pe_cal c_first_state (hr.mono (by omega)) rfl (pa_cons (pv 0) pa_nil)) pa_nil)))
    (pss_cons (ps_for PassesOwn.never rfl (pi_seq (pv 1)) (pg_name (i := 3) sc.nd rfl (.inl rfl)) (pss_cons (ps_set (i := 4) sc.nd rfl (Or.inl rfl) (pe_cal c_next_state (hr.mono (by omega)) rfl (pa_cons (pv 0) (pa_cons (pe_ix ix_seq (pv 2) (pe_un un_neg pe_int) (fun _ _ => rfl)) (pa_cons (pv 3) pa_nil)))))
    (pss_cons (ps_if (pt_cmp (pc_isN (pv 4))) (pss_one (ps_ret (pv 2)))
    pss_nil)
    (pss_one (ps_expr (pe_bm PySem.F.plainAttrs_list PySem.F.slot_list_append PySem.F.type_list_append mt_append (pv 2) (pa_cons (pv 4) pa_nil)))))))
    (pss_one (ps_ret (pv 2)))))
abbrev s_run_out : Stmt := top 31
theorem sc_run_out : FnScope ["clock", "uses", "made"] ["clock", "uses"] (defScope s_run_out) := ⟨rfl, rfl, rfl, by decide +kernel, rfl, by decide +kernel, by decide +kernel⟩
def t_run_out (K : PySem.W.Frag) (sp_check_clock : Sp) (sp_check_uses : Sp) (sp_states_in : Sp) : TS :=
  (tSeq (tDrop (tCall sp_check_clock [] E0 (tCons (tVar 0) tNil)))
    (tSeq (tDrop (tCall sp_check_uses [] E0 (tCons (tVar 1) tNil)))
    (tSeq (tAsg (tOp (rI0 fun i j => .int (i - j)) (tCB (rLen K) (tCons (tCall sp_states_in [] E0 (tCons (tVar 0) (tCons (tVar 1) tNil))) tNil)) (tC (.int 1))) (gName 2))
    (tRet (tIf (tTest (tOp (rI0 fun i j => .bl (decide (i < j))) (tVar 2) (tCB (rLen K) (tCons (tVar 1) tNil)))) (tVar 2) (tC .non))))))
theorem dv_run_out {P : Program} {w : World} {K : PySem.W.Frag} {mg : Str → Option Value} {base : Heap} {k : Nat} {f : Addr} {sp_check_clock : Sp} {sp_check_uses : Sp} {sp_states_in : Sp} (m : Mo K mg) (c_check_clock : Cal P w K mg base k "check_clock" ["clock"] sp_check_clock) (c_check_uses : Cal P w K mg base k "check_uses" ["uses"] sp_check_uses) (c_states_in : Cal P w K mg base k "states_in" ["clock", "uses"] sp_states_in) :
    Dv P w K mg base (k + 1) ["clock", "uses", "made"] "run_out" (defScope s_run_out) f (defBody s_run_out) (t_run_out K sp_check_clock sp_check_uses sp_states_in) := by
  intro cdv A outer s H E hr
  have sc := sc_run_out
  exact (pss_cons (ps_expr (pe_cal c_check_clock (hr.mono (by omega)) rfl (pa_cons (pv 0) pa_nil)))
    (pss_cons (ps_expr (pe_cal c_check_uses (hr.mono (by omega)) rfl (pa_cons (pv 1) pa_nil)))
    (pss_cons (ps_set (i := 2) sc.nd rfl (Or.inl rfl) (pe_op op_sub (pe_callB call_len rfl m.n_len boot_len (pa_cons (pe_cal c_states_in (hr.mono (by omega)) rfl (pa_cons (pv 0) (pa_cons (pv 1) pa_nil))) pa_nil)) pe_int))
    (pss_one (ps_ret (pe_ifExp (pt_cmpR op_lt (pv 2) (pe_callB call_len rfl m.n_len boot_len (pa_cons (pv 1) pa_nil)) (nomark _)) (pv 2) pe_non))))))
abbrev s_check_clocks : Stmt := top 33
theorem sc_check_clocks : FnScope ["one", "other"] ["one", "other"] (defScope s_check_clocks) := ⟨rfl, rfl, rfl, by decide +kernel, rfl, by decide +kernel, by decide +kernel⟩
def t_check_clocks (K : PySem.W.Frag) : TS :=
  (tSeq (tIfS (tNot (tB (tCB (rIsi K) (tCons (tVar 0) (tCons (tC (.ref (He.ga K "Clock"))) tNil))))) tNever
    tNext)
    (tIfS (tNot (tB (tCB (rIsi K) (tCons (tVar 1) (tCons (tC (.ref (He.ga K "Clock"))) tNil))))) tNever
    tNext))
theorem dv_check_clocks {P : Program} {w : World} {K : PySem.W.Frag} {mg : Str → Option Value} {base : Heap} {k : Nat} {f : Addr} (m : Mo K mg) :
    Dv P w K mg base (k + 1) ["one", "other"] "check_clocks" (defScope s_check_clocks) f (defBody s_check_clocks) (t_check_clocks K) := by
  intro cdv A outer s H E hr
  have sc := sc_check_clocks
  exact (pss_cons (ps_if (pt_not (pt_val (pe_callB call_isi rfl m.n_isinstance boot_isinstance (pa_cons (pv 0) (pa_cons (pe_glob rfl m.g_Clock rfl) pa_nil))))) (pss_one ps_never)
    pss_nil)
    (pss_one (ps_if (pt_not (pt_val (pe_callB call_isi rfl m.n_isinstance boot_isinstance (pa_cons (pv 1) (pa_cons (pe_glob rfl m.g_Clock rfl) pa_nil))))) (pss_one ps_never)
    pss_nil)))
abbrev s_game_of : Stmt := top 34
theorem sc_game_of : FnScope ["black", "white", "uses", "clocks", "states", "color", "player", "index", "used", "state"] ["black", "white", "uses"] (defScope s_game_of) := ⟨rfl, rfl, rfl, by decide +kernel, rfl, by decide +kernel, by decide +kernel⟩
def t_game_of (K : PySem.W.Frag) (sp_other_color : Sp) (sp_first_state : Sp) (sp_next_state : Sp) : TS :=
  (tSeq (tPar3 3 4 5 (tCons (tDisp [((tC (.int 1)), (tVar 0)), ((tCall sp_other_color [] E0 (tCons (tC (.int 1)) tNil)), (tVar 1))]) (tCons tDNewK (tCons (tC (.int 1)) tNil))))
    (tSeq (tLock (tFor (iKeys (tVar 3)) (gName 6) (sDPut (tVar 4) (tVar 6) (tCall sp_first_state [] E0 (tCons (tDGet (tVar 3) (tVar 6)) tNil)))))
    (tSeq (tFor (iEnumS K (tCons (tVar 2) tNil)) (gTup K 2 (gCons (gName 7) (gCons (gName 8) gNil))) (tSeq (tAsg (tCall sp_next_state [] E0 (tCons (tDGet (tVar 3) (tVar 5)) (tCons (tDGet (tVar 4) (tVar 5)) (tCons (tVar 8) tNil)))) (gName 9))
    (tSeq (tIfS (tB (tIsN (tVar 9))) (tRet (tTup (tCons (tVar 4) (tCons (tTup (tCons (tVar 5) (tCons (tVar 7) tNil))) tNil))))
    tNext)
    (tAsg (tTup (tCons (tVar 9) (tCons (tCall sp_other_color [] E0 (tCons (tVar 5) tNil)) tNil))) (gTup K 2 (gCons (gSub (tVar 4) (tVar 5) rSetD) (gCons (gName 5) gNil)))))))
    (tRet (tTup (tCons (tVar 4) (tCons (tC .non) tNil)))))))
theorem dv_game_of {P : Program} {w : World} {K : PySem.W.Frag} {mg : Str → Option Value} {base : Heap} {k : Nat} {f : Addr} {sp_other_color : Sp} {sp_first_state : Sp} {sp_next_state : Sp} (m : Mo K mg) (c_other_color : Cal P w K mg base k "other_color" ["color"] sp_other_color) (c_first_state : Cal P w K mg base k "first_state" ["clock"] sp_first_state) (c_next_state : Cal P w K mg base k "next_state" ["clock", "state", "used"] sp_next_state) :
    Dv P w K mg base (k + 1) ["black", "white", "uses", "clocks", "states", "color", "player", "index", "used", "state"] "game_of" (defScope s_game_of) f (defBody s_game_of) (t_game_of K sp_other_color sp_first_state sp_next_state) := by
  intro cdv A outer s H E hr
  have sc := sc_game_of
  obtain ⟨_, g_BLACK⟩ := m.g_BLACK
  exact (pss_cons (ps_par3 (i := 3) (j := 4) (l := 5) rfl sc.nd rfl rfl rfl (by decide) (by decide) (by decide) rfl rfl rfl (pa_cons (pe_disp (pps_cons (pe_glob rfl g_BLACK ⟨_, rfl⟩) (pv 0) (pps_cons (pe_cal c_other_color (hr.mono (by omega)) rfl (pa_cons (pe_glob rfl g_BLACK ⟨_, rfl⟩) pa_nil)) (pv 1) pps_nil)) rfl rfl (by simp) (by decide)) (pa_cons pe_dnewK (pa_cons (pe_glob rfl g_BLACK ⟨_, rfl⟩) pa_nil))) rfl)
    (pss_cons (ps_lock (ps_for PassesOwn.never rfl (pi_keys (pv 3)) (pg_name (i := 6) sc.nd rfl (.inl rfl)) (pss_one (ps_dput (hu_of hr) (pv 4) (pv 6) (pe_cal c_first_state (hr.mono (by omega)) rfl (pa_cons (pe_dget (hu_of hr) (pv 3) (pv 6) (fun _ _ => rfl)) pa_nil)) rfl))))
    (pss_cons (ps_for PassesOwn.never rfl (pi_enumS rfl m.n_enumerate (pa_cons (pv 2) pa_nil)) (pg_tup rfl (pgs_cons (pg_name (i := 7) sc.nd rfl (.inl rfl)) (pgs_cons (pg_name (i := 8) sc.nd rfl (.inl rfl)) pgs_nil))) (pss_cons (ps_set (i := 9) sc.nd rfl (Or.inl rfl) (pe_cal c_next_state (hr.mono (by omega)) rfl (pa_cons (pe_dget (hu_of hr) (pv 3) (pv 5) (fun _ _ => rfl)) (pa_cons (pe_dget (hu_of hr) (pv 4) (pv 5) (fun _ _ => rfl)) (pa_cons (pv 8) pa_nil)))))
    (pss_cons (ps_if (pt_cmp (pc_isN (pv 9))) (pss_one (ps_ret (pe_tup (pa_cons (pv 4) (pa_cons (pe_tup (pa_cons (pv 5) (pa_cons (pv 7) pa_nil))) pa_nil)))))
    pss_nil)
    (pss_one (ps_asg (pe_tup (pa_cons (pv 9) (pa_cons (pe_cal c_other_color (hr.mono (by omega)) rfl (pa_cons (pv 5) pa_nil)) pa_nil))) (pg_tup rfl (pgs_cons (pg_sub (pv 4) (pv 5) (set_dict (hu_of hr))) (pgs_cons (pg_name (i := 5) sc.nd rfl (.inl rfl)) pgs_nil))))))))
    (pss_one (ps_ret (pe_tup (pa_cons (pv 4) (pa_cons pe_non pa_nil))))))))
abbrev s_first_out : Stmt := top 35
theorem sc_first_out : FnScope ["black", "white", "uses"] ["black", "white", "uses"] (defScope s_first_out) := ⟨rfl, rfl, rfl, by decide +kernel, rfl, by decide +kernel, by decide +kernel⟩
def t_first_out (K : PySem.W.Frag) (sp_check_clocks : Sp) (sp_check_uses : Sp) (sp_game_of : Sp) : TS :=
  (tSeq (tDrop (tCall sp_check_clocks [] E0 (tCons (tVar 0) (tCons (tVar 1) tNil))))
    (tSeq (tDrop (tCall sp_check_uses [] E0 (tCons (tVar 2) tNil)))
    (tRet (tOp (rIx K) (tCall sp_game_of [] E0 (tCons (tVar 0) (tCons (tVar 1) (tCons (tVar 2) tNil)))) (tC (.int 1))))))
theorem dv_first_out {P : Program} {w : World} {K : PySem.W.Frag} {mg : Str → Option Value} {base : Heap} {k : Nat} {f : Addr} {sp_check_clocks : Sp} {sp_check_uses : Sp} {sp_game_of : Sp} (m : Mo K mg) (c_check_clocks : Cal P w K mg base k "check_clocks" ["one", "other"] sp_check_clocks) (c_check_uses : Cal P w K mg base k "check_uses" ["uses"] sp_check_uses) (c_game_of : Cal P w K mg base k "game_of" ["black", "white", "uses"] sp_game_of) :
    Dv P w K mg base (k + 1) ["black", "white", "uses"] "first_out" (defScope s_first_out) f (defBody s_first_out) (t_first_out K sp_check_clocks sp_check_uses sp_game_of) := by
  intro cdv A outer s H E hr
  have sc := sc_first_out
  exact (pss_cons (ps_expr (pe_cal c_check_clocks (hr.mono (by omega)) rfl (pa_cons (pv 0) (pa_cons (pv 1) pa_nil))))
    (pss_cons (ps_expr (pe_cal c_check_uses (hr.mono (by omega)) rfl (pa_cons (pv 2) pa_nil)))
    (pss_one (ps_ret (pe_ix ix_seq (pe_cal c_game_of (hr.mono (by omega)) rfl (pa_cons (pv 0) (pa_cons (pv 1) (pa_cons (pv 2) pa_nil)))) pe_int (fun _ _ => rfl))))))
abbrev s_states_left : Stmt := top 36
theorem sc_states_left : FnScope ["black", "white", "uses", "states"] ["black", "white", "uses"] (defScope s_states_left) := ⟨rfl, rfl, rfl, by decide +kernel, rfl, by decide +kernel, by decide +kernel⟩
def t_states_left (K : PySem.W.Frag) (sp_check_clocks : Sp) (sp_check_uses : Sp) (sp_game_of : Sp) (sp_other_color : Sp) : TS :=
  (tSeq (tDrop (tCall sp_check_clocks [] E0 (tCons (tVar 0) (tCons (tVar 1) tNil))))
    (tSeq (tDrop (tCall sp_check_uses [] E0 (tCons (tVar 2) tNil)))
    (tSeq (tAsg (tOp (rIx K) (tCall sp_game_of [] E0 (tCons (tVar 0) (tCons (tVar 1) (tCons (tVar 2) tNil)))) (tC (.int 0))) (gName 3))
    (tRet (tTup (tCons (tDGet (tVar 3) (tC (.int 1))) (tCons (tDGet (tVar 3) (tCall sp_other_color [] E0 (tCons (tC (.int 1)) tNil))) tNil)))))))
theorem dv_states_left {P : Program} {w : World} {K : PySem.W.Frag} {mg : Str → Option Value} {base : Heap} {k : Nat} {f : Addr} {sp_check_clocks : Sp} {sp_check_uses : Sp} {sp_game_of : Sp} {sp_other_color : Sp} (m : Mo K mg) (c_check_clocks : Cal P w K mg base k "check_clocks" ["one", "other"] sp_check_clocks) (c_check_uses : Cal P w K mg base k "check_uses" ["uses"] sp_check_uses) (c_game_of : Cal P w K mg base k "game_of" ["black", "white", "uses"] sp_game_of) (c_other_color : Cal P w K mg base k "other_color" ["color"] sp_other_color) :
    Dv P w K mg base (k + 1) ["black", "white", "uses", "states"] "states_left" (defScope s_states_left) f (defBody s_states_left) (t_states_left K sp_check_clocks sp_check_uses sp_game_of sp_other_color) := by
  intro cdv A outer s H E hr
  have sc := sc_states_left
  obtain ⟨_, g_BLACK⟩ := m.g_BLACK
  exact (pss_cons (ps_expr (pe_cal c_check_clocks (hr.mono (by omega)) rfl (pa_cons (pv 0) (pa_cons (pv 1) pa_nil))))
    (pss_cons (ps_expr (pe_cal c_check_uses (hr.mono (by omega)) rfl (pa_cons (pv 2) pa_nil)))
    (pss_cons (ps_set (i := 3) sc.nd rfl (Or.inl rfl) (pe_ix ix_seq (pe_cal c_game_of (hr.mono (by omega)) rfl (pa_cons (pv 0) (pa_cons (pv 1) (pa_cons (pv 2) pa_nil)))) pe_int (fun _ _ => rfl)))
    (pss_one (ps_ret (pe_tup (pa_cons (pe_dget (hu_of hr) (pv 3) (pe_glob rfl g_BLACK ⟨_, rfl⟩) (fun _ _ => rfl)) (pa_cons (pe_dget (hu_of hr) (pv 3) (pe_cal c_other_color (hr.mono (by omega)) rfl (pa_cons (pe_glob rfl g_BLACK ⟨_, rfl⟩) pa_nil)) (fun _ _ => rfl)) pa_nil))))))))
abbrev s_Values__init__ : Stmt := inClass (top 37) 0
theorem sc_Values__init__ : FnScope ["self", "main", "bonus", "periods", "length"] ["self", "main", "bonus", "periods", "length"] (defScope s_Values__init__) := ⟨rfl, rfl, rfl, by decide +kernel, rfl, by decide +kernel, by decide +kernel⟩
def t_Values__init__ (K : PySem.W.Frag) : TS :=
  (tSeq (sFld K (tVar 0) (tVar 1) "main")
    (tSeq (sFld K (tVar 0) (tVar 2) "bonus")
    (tSeq (sFld K (tVar 0) (tVar 3) "periods")
    (sFld K (tVar 0) (tVar 4) "length"))))
theorem dv_Values__init__ {P : Program} {w : World} {K : PySem.W.Frag} {mg : Str → Option Value} {base : Heap} {k : Nat} {f : Addr} (m : Mo K mg) :
    Dv P w K mg base (k + 1) ["self", "main", "bonus", "periods", "length"] "Values.__init__" (defScope s_Values__init__) f (defBody s_Values__init__) (t_Values__init__ K) := by
  intro cdv A outer s H E hr
  have sc := sc_Values__init__
  exact (pss_cons (ps_fld (pv 0) (pv 1) rfl)
    (pss_cons (ps_fld (pv 0) (pv 2) rfl)
    (pss_cons (ps_fld (pv 0) (pv 3) rfl)
    (pss_one (ps_fld (pv 0) (pv 4) rfl)))))
abbrev s_needed_main : Stmt := top 38
theorem sc_needed_main : FnScope ["bonus", "periods", "length", "uses", "low", "high", "middle"] ["bonus", "periods", "length", "uses"] (defScope s_needed_main) := ⟨rfl, rfl, rfl, by decide +kernel, rfl, by decide +kernel, by decide +kernel⟩
def t_needed_main (K : PySem.W.Frag) (sp_check_periods : Sp) (sp_check_uses : Sp) (sp_states_in : Sp) (sp_Values__init__ : Sp) : TS :=
  (tSeq (tDrop (tCall sp_check_periods [] E0 (tCons (tVar 0) (tCons (tVar 1) (tCons (tVar 2) tNil)))))
    (tSeq (tDrop (tCall sp_check_uses [] E0 (tCons (tVar 3) tNil)))
    (tSeq (tPar 4 5 (tCons (tC (.int 0)) (tCons (tCB (rSum K) (tCons (tCB (rListO K) (tCons (tVar 3) tNil)) tNil)) tNil)))
    (tSeq (tWhile (tTest (tOp (rI0 fun i j => .bl (decide (i < j))) (tVar 4) (tVar 5))) (tSeq (tAsg (tOp (rI CDiv fun i j => .int (i / j)) (tOp (rPlus K) (tVar 4) (tVar 5)) (tC (.int 2))) (gName 6))
    (tIfS (tTest (tOp (rI0 fun i j => .bl (decide (j < i))) (tCB (rLen K) (tCons (tCall sp_states_in [] E0 (tCons (tMake (He.ga K "Values") sp_Values__init__ [] E0 (tCons (tVar 6) (tCons (tVar 0) (tCons (tVar 1) (tCons (tVar 2) tNil))))) (tCons (tVar 3) tNil))) tNil)) (tCB (rLen K) (tCons (tVar 3) tNil)))) (tAsg (tVar 6) (gName 5))
    (tAsg (tOp (rPlus K) (tVar 6) (tC (.int 1))) (gName 4)))))
    (tRet (tVar 4))))))
theorem dv_needed_main {P : Program} {w : World} {K : PySem.W.Frag} {mg : Str → Option Value} {base : Heap} {k : Nat} {f : Addr} {sp_check_periods : Sp} {sp_check_uses : Sp} {sp_states_in : Sp} {sp_Values__init__ : Sp} (m : Mo K mg) (c_check_periods : Cal P w K mg base k "check_periods" ["bonus", "periods", "length"] sp_check_periods) (c_check_uses : Cal P w K mg base k "check_uses" ["uses"] sp_check_uses) (c_states_in : Cal P w K mg base k "states_in" ["clock", "uses"] sp_states_in) (cm_Values : CalM P w K mg base k "Values" (He.ga K "Values") sp_Values__init__) :
    Dv P w K mg base (k + 1) ["bonus", "periods", "length", "uses", "low", "high", "middle"] "needed_main" (defScope s_needed_main) f (defBody s_needed_main) (t_needed_main K sp_check_periods sp_check_uses sp_states_in sp_Values__init__) := by
  intro cdv A outer s H E hr
  have sc := sc_needed_main
  exact (pss_cons (ps_expr (pe_cal c_check_periods (hr.mono (by omega)) rfl (pa_cons (pv 0) (pa_cons (pv 1) (pa_cons (pv 2) pa_nil)))))
    (pss_cons (ps_expr (pe_cal c_check_uses (hr.mono (by omega)) rfl (pa_cons (pv 3) pa_nil)))
    (pss_cons (ps_par (i := 4) (j := 5) rfl sc.nd rfl rfl (by decide) rfl rfl (pa_cons pe_int (pa_cons (pe_callB (cr_sum rfl) rfl m.n_sum boot_sum (pa_cons (pe_callTy call_list_of rfl m.n_list boot_list (pa_cons (pv 3) pa_nil)) pa_nil)) pa_nil)) rfl)
    (pss_cons (ps_while PassesOwn.never (pt_cmpR op_lt (pv 4) (pv 5) (nomark _)) (pss_cons (ps_set (i := 6) sc.nd rfl (Or.inl rfl) (pe_op op_fdiv (pe_op op_plus (pv 4) (pv 5)) pe_int))
    (pss_one (ps_if (pt_cmpR op_gt (pe_callB call_len rfl m.n_len boot_len (pa_cons (pe_cal c_states_in (hr.mono (by omega)) rfl (pa_cons (pe_calM cm_Values hr rfl (pa_cons (pv 6) (pa_cons (pv 0) (pa_cons (pv 1) (pa_cons (pv 2) pa_nil))))) (pa_cons (pv 3) pa_nil))) pa_nil)) (pe_callB call_len rfl m.n_len boot_len (pa_cons (pv 3) pa_nil)) (nomark _)) (pss_one (ps_set (i := 5) sc.nd rfl (Or.inl rfl) (pv 6)))
    (pss_one (ps_set (i := 4) sc.nd rfl (Or.inl rfl) (pe_op op_plus (pv 6) pe_int)))))))
    (pss_one (ps_ret (pv 4)))))))
abbrev s__law_cell : Stmt := top 40
theorem sc__law_cell : FnScope ["script", "k"] ["script", "k"] (defScope s__law_cell) := ⟨rfl, rfl, rfl, by decide +kernel, rfl, by decide +kernel, by decide +kernel⟩
def t__law_cell (K : PySem.W.Frag) : TS :=
  (tRet (tIf (tTest (tOp (rI0 fun i j => .bl (decide (i < j))) (tVar 1) (tCB (rLen K) (tCons (tVar 0) tNil)))) (tOp (rIx K) (tVar 0) (tVar 1)) (tOp (rPlus K) (tOp (rI CMul fun i j => .int (i * j)) (tC (.int 8267)) (tVar 1)) (tOp (rI (fun _ j => 0 < j) fun i j => .int (i % j)) (tCB rIntO (tCons (tCB (rSum K) (tCons (tSl (rSlSeq K) (tVar 0) tNoPart (tPart (tC (.int 1)))) tNil)) tNil)) (tC (.int 1000679))))))
theorem dv__law_cell {P : Program} {w : World} {K : PySem.W.Frag} {mg : Str → Option Value} {base : Heap} {k : Nat} {f : Addr} (m : Mo K mg) :
    Dv P w K mg base (k + 1) ["script", "k"] "_law_cell" (defScope s__law_cell) f (defBody s__law_cell) (t__law_cell K) := by
  intro cdv A outer s H E hr
  have sc := sc__law_cell
  exact (pss_one (ps_ret (pe_ifExp (pt_cmpR op_lt (pv 1) (pe_callB call_len rfl m.n_len boot_len (pa_cons (pv 0) pa_nil)) (nomark _)) (pe_ix ix_seq (pv 0) (pv 1) (fun _ _ => rfl)) (pe_op op_plus (pe_op op_mul pe_int (pv 1)) (pe_op op_mod (pe_callTy call_int1 rfl m.n_int boot_int (pa_cons (pe_callB (cr_sum rfl) rfl m.n_sum boot_sum (pa_cons (pe_slice sl_seq (pv 0) po_none (po_some pe_int)) pa_nil)) pa_nil)) pe_int)))))
abbrev s__law_box : Stmt := top 41
theorem sc__law_box : FnScope ["great"] ["great"] (defScope s__law_box) := ⟨rfl, rfl, rfl, by decide +kernel, rfl, by decide +kernel, by decide +kernel⟩
def t__law_box (K : PySem.W.Frag) : TS :=
  (tRet (tLst (tCons (tCB rAbsO (tCons (tVar 0) tNil)) (tCons (tOp (rI0 fun i j => .bl (decide (j ≤ i))) (tCB rAbsO (tCons (tVar 0) tNil)) (tOp (rI CPow fun i j => .int (i ^ j.toNat)) (tC (.int 10)) (tC (.int 18)))) (tCons (tOp (rI (fun _ j => 0 < j) fun i j => .int (i % j)) (tCB rIntO (tCons (tCB rAbsO (tCons (tVar 0) tNil)) tNil)) (tC (.int 2147483629))) (tCons (tC (.int 0)) tNil))))))
theorem dv__law_box {P : Program} {w : World} {K : PySem.W.Frag} {mg : Str → Option Value} {base : Heap} {k : Nat} {f : Addr} (m : Mo K mg) :
    Dv P w K mg base (k + 1) ["great"] "_law_box" (defScope s__law_box) f (defBody s__law_box) (t__law_box K) := by
  intro cdv A outer s H E hr
  have sc := sc__law_box
  exact (pss_one (ps_ret (pe_lst (pa_cons (pe_callB call_abs rfl m.n_abs boot_abs (pa_cons (pv 0) pa_nil)) (pa_cons (pe_cmpR op_ge (pe_callB call_abs rfl m.n_abs boot_abs (pa_cons (pv 0) pa_nil)) (pe_op op_pow pe_int pe_int) (nomark _)) (pa_cons (pe_op op_mod (pe_callTy call_int1 rfl m.n_int boot_int (pa_cons (pe_callB call_abs rfl m.n_abs boot_abs (pa_cons (pv 0) pa_nil)) pa_nil)) pe_int) (pa_cons pe_int pa_nil)))))))
abbrev s__law_take : Stmt := top 42
theorem sc__law_take : FnScope ["box", "many", "digit", "mixed"] ["box", "many"] (defScope s__law_take) := ⟨rfl, rfl, rfl, by decide +kernel, rfl, by decide +kernel, by decide +kernel⟩
def t__law_take (K : PySem.W.Frag) : TS :=
  (tSeq (tIfS (tAnd (tB (tOp (rIx K) (tVar 0) (tC (.int 1)))) (tTest (tOp (rI0 fun i j => .bl (decide (j < i))) (tOp (rIx K) (tVar 0) (tC (.int 0))) (tC (.int 0))))) (tSeq (tAsg (tOp (rI (fun _ j => 0 < j) fun i j => .int (i % j)) (tCB rIntO (tCons (tOp (rIx K) (tVar 0) (tC (.int 0))) tNil)) (tVar 1)) (gName 2))
    (tSeq (tAsg (tOp (rI CDiv fun i j => .int (i / j)) (tOp (rIx K) (tVar 0) (tC (.int 0))) (tVar 1)) (gSub (tVar 0) (tC (.int 0)) rSetL))
    (tRet (tVar 2))))
    tNext)
    (tSeq (tAsg (tOp (rPlus K) (tOp (rIx K) (tVar 0) (tC (.int 3))) (tC (.int 1))) (gSub (tVar 0) (tC (.int 3)) rSetL))
    (tSeq (tAsg (tOp (rI (fun _ j => 0 < j) fun i j => .int (i % j)) (tCB rIntO (tCons (tOp (rI CPow fun i j => .int (i ^ j.toNat)) (tOp (rPlus K) (tOp (rPlus K) (tOp (rIx K) (tVar 0) (tC (.int 2))) (tOp (rI CMul fun i j => .int (i * j)) (tC (.int 15487567)) (tOp (rIx K) (tVar 0) (tC (.int 3))))) (tC (.int 179426459))) (tC (.int 5))) tNil)) (tC (.int 2147483647))) (gName 3))
    (tRet (tOp (rI (fun _ j => 0 < j) fun i j => .int (i % j)) (tCB rIntO (tCons (tOp (rI CDiv fun i j => .int (i / j)) (tOp (rI (fun _ j => 0 < j) fun i j => .int (i % j)) (tCB rIntO (tCons (tOp (rI CPow fun i j => .int (i ^ j.toNat)) (tOp (rPlus K) (tOp (rI CMul fun i j => .int (i * j)) (tVar 3) (tC (.int 48271))) (tOp (rI CMul fun i j => .int (i * j)) (tC (.int 9215)) (tOp (rIx K) (tVar 0) (tC (.int 3))))) (tC (.int 3))) tNil)) (tC (.int 2147483587))) (tC (.int 64))) tNil)) (tVar 1))))))
theorem dv__law_take {P : Program} {w : World} {K : PySem.W.Frag} {mg : Str → Option Value} {base : Heap} {k : Nat} {f : Addr} (m : Mo K mg) :
    Dv P w K mg base (k + 1) ["box", "many", "digit", "mixed"] "_law_take" (defScope s__law_take) f (defBody s__law_take) (t__law_take K) := by
  intro cdv A outer s H E hr
  have sc := sc__law_take
  exact (pss_cons (ps_if (PW.pt (pw_and (pt_val (pe_ix ix_seq (pv 0) pe_int (fun _ _ => rfl))) (pw_and1 (pt_cmpR op_gt (pe_ix ix_seq (pv 0) pe_int (fun _ _ => rfl)) pe_int (nomark _))))) (pss_cons (ps_set (i := 2) sc.nd rfl (Or.inl rfl) (pe_op op_mod (pe_callTy call_int1 rfl m.n_int boot_int (pa_cons (pe_ix ix_seq (pv 0) pe_int (fun _ _ => rfl)) pa_nil)) (pv 1)))
    (pss_cons (ps_asg (pe_op op_fdiv (pe_ix ix_seq (pv 0) pe_int (fun _ _ => rfl)) (pv 1)) (pg_sub (pv 0) pe_int set_list))
    (pss_one (ps_ret (pv 2)))))
    pss_nil)
    (pss_cons (ps_asg (pe_op op_plus (pe_ix ix_seq (pv 0) pe_int (fun _ _ => rfl)) pe_int) (pg_sub (pv 0) pe_int set_list))
    (pss_cons (ps_set (i := 3) sc.nd rfl (Or.inl rfl) (pe_op op_mod (pe_callTy call_int1 rfl m.n_int boot_int (pa_cons (pe_op op_pow (pe_op op_plus (pe_op op_plus (pe_ix ix_seq (pv 0) pe_int (fun _ _ => rfl)) (pe_op op_mul pe_int (pe_ix ix_seq (pv 0) pe_int (fun _ _ => rfl)))) pe_int) pe_int) pa_nil)) pe_int))
    (pss_one (ps_ret (pe_op op_mod (pe_callTy call_int1 rfl m.n_int boot_int (pa_cons (pe_op op_fdiv (pe_op op_mod (pe_callTy call_int1 rfl m.n_int boot_int (pa_cons (pe_op op_pow (pe_op op_plus (pe_op op_mul (pv 3) pe_int) (pe_op op_mul pe_int (pe_ix ix_seq (pv 0) pe_int (fun _ _ => rfl)))) pe_int) pa_nil)) pe_int) pe_int) pa_nil)) (pv 1)))))))
abbrev s__law_pick : Stmt := top 43
theorem sc__law_pick : FnScope ["box", "items"] ["box", "items"] (defScope s__law_pick) := ⟨rfl, rfl, rfl, by decide +kernel, rfl, by decide +kernel, by decide +kernel⟩
def t__law_pick (K : PySem.W.Frag) (sp__law_take : Sp) : TS :=
  (tRet (tOp (rIx K) (tVar 1) (tCall sp__law_take [] E0 (tCons (tVar 0) (tCons (tCB (rLen K) (tCons (tVar 1) tNil)) tNil)))))
theorem dv__law_pick {P : Program} {w : World} {K : PySem.W.Frag} {mg : Str → Option Value} {base : Heap} {k : Nat} {f : Addr} {sp__law_take : Sp} (m : Mo K mg) (c__law_take : Cal P w K mg base k "_law_take" ["box", "many"] sp__law_take) :
    Dv P w K mg base (k + 1) ["box", "items"] "_law_pick" (defScope s__law_pick) f (defBody s__law_pick) (t__law_pick K sp__law_take) := by
  intro cdv A outer s H E hr
  have sc := sc__law_pick
  exact (pss_one (ps_ret (pe_ix ix_seq (pv 1) (pe_cal c__law_take (hr.mono (by omega)) rfl (pa_cons (pv 0) (pa_cons (pe_callB call_len rfl m.n_len boot_len (pa_cons (pv 1) pa_nil)) pa_nil))) (fun _ _ => rfl))))
abbrev s__law_whole : Stmt := top 44
theorem sc__law_whole : FnScope ["value"] ["value"] (defScope s__law_whole) := ⟨rfl, rfl, rfl, by decide +kernel, rfl, by decide +kernel, by decide +kernel⟩
def t__law_whole (K : PySem.W.Frag) : TS :=
  (tRet (tAndV (tCB (rIsi K) (tCons (tVar 0) (tCons (tC (.ty "int")) tNil))) (tNotV (tCB (rIsi K) (tCons (tVar 0) (tCons (tC (.ty "bool")) tNil))))))
theorem dv__law_whole {P : Program} {w : World} {K : PySem.W.Frag} {mg : Str → Option Value} {base : Heap} {k : Nat} {f : Addr} (m : Mo K mg) :
    Dv P w K mg base (k + 1) ["value"] "_law_whole" (defScope s__law_whole) f (defBody s__law_whole) (t__law_whole K) := by
  intro cdv A outer s H E hr
  have sc := sc__law_whole
  exact (pss_one (ps_ret (pe_and (pe_callB call_isi rfl m.n_isinstance boot_isinstance (pa_cons (pv 0) (pa_cons (pe_bltn rfl m.n_int boot_int rfl) pa_nil))) (pe_one (pe_not (pe_callB call_isi rfl m.n_isinstance boot_isinstance (pa_cons (pv 0) (pa_cons (pe_bltn rfl m.n_bool boot_bool rfl) pa_nil))))))))
abbrev s__law_is : Stmt := top 45
theorem sc__law_is : FnScope ["given", "due", "k"] ["given", "due"] (defScope s__law_is) := ⟨rfl, rfl, rfl, by decide +kernel, rfl, by decide +kernel, by decide +kernel⟩
def t__law_is (K : PySem.W.Frag) (sp__law_whole : Sp) (sp__law_is : Sp) : TS :=
  (tSeq (tIfS (tOr (tB (tIsN (tVar 1))) (tB (tCB (rIsi K) (tCons (tVar 1) (tCons (tC (.ty "bool")) tNil))))) (tRet (tIf (tB (tIsN (tVar 1))) (tIsN (tVar 0)) (tAndV (tCB (rIsi K) (tCons (tVar 0) (tCons (tC (.ty "bool")) tNil))) (tOp (rEqA K) (tOp (fun x y H Q => ∃ a b : Bool, x = .bl a ∧ y = .bl b ∧ Q (.bl (decide (a = b))) H) (tVar 0) (tC (.bl true))) (tOp (fun x y H Q => ∃ a b : Bool, x = .bl a ∧ y = .bl b ∧ Q (.bl (decide (a = b))) H) (tVar 1) (tC (.bl true)))))))
    tNext)
    (tSeq (tIfS (tB (tCB (rIsi K) (tCons (tVar 1) (tCons (tC (.ty "int")) tNil)))) (tRet (tAndV (tCall sp__law_whole [] E0 (tCons (tVar 0) tNil)) (tOp (rEqA K) (tOp (rI0 fun i j => .int (i - j)) (tCB rIntO (tCons (tVar 0) tNil)) (tVar 1)) (tC (.int 0)))))
    tNext)
    (tSeq (tIfS (tB (tCB (rIsi K) (tCons (tVar 1) (tCons (tC (.ty "str")) tNil)))) (tRet (tAndV (tCB (rIsi K) (tCons (tVar 0) (tCons (tC (.ty "str")) tNil))) (tAndV (tOp (rEqA K) (tCB (rLen K) (tCons (tVar 0) tNil)) (tCB (rLen K) (tCons (tVar 1) tNil))) (tOp (rEqA K) (tLc (iRng1 (tCons (tCB (rLen K) (tCons (tVar 1) tNil)) tNil)) (gName 2) (tTest (tOp (rNeA K) (tSl (rSlSeq K) (tVar 0) (tPart (tVar 2)) (tPart (tOp (rPlus K) (tVar 2) (tC (.int 1))))) (tOp (rIx K) (tVar 1) (tVar 2)))) (tVar 2) [2]) (tLst tNil)))))
    tNext)
    (tSeq (tIfS (tOr (tNot (tB (tCB (rIsiT K) (tCons (tVar 1) (tCons (tTup (tCons (tC (.ty "list")) (tCons (tC (.ty "tuple")) tNil))) tNil))))) (tOr (tTest (tOp (rNeA K) (tCB (rIsi K) (tCons (tVar 0) (tCons (tC (.ty "list")) tNil))) (tCB (rIsi K) (tCons (tVar 1) (tCons (tC (.ty "list")) tNil))))) (tTest (tOp (rNeA K) (tCB (rIsi K) (tCons (tVar 0) (tCons (tC (.ty "tuple")) tNil))) (tCB (rIsi K) (tCons (tVar 1) (tCons (tC (.ty "tuple")) tNil))))))) (tRet (tC (.bl false)))
    tNext)
    (tRet (tAndV (tOp (rEqA K) (tCB (rLen K) (tCons (tVar 0) tNil)) (tCB (rLen K) (tCons (tVar 1) tNil))) (tOp (rEqA K) (tLc (iRng1 (tCons (tCB (rLen K) (tCons (tVar 1) tNil)) tNil)) (gName 2) (tNot (tB (tCall sp__law_is [] E0 (tCons (tOp (rIx K) (tVar 0) (tVar 2)) (tCons (tOp (rIx K) (tVar 1) (tVar 2)) tNil))))) (tVar 2) [2]) (tLst tNil))))))))
theorem dv__law_is {P : Program} {w : World} {K : PySem.W.Frag} {mg : Str → Option Value} {base : Heap} {k : Nat} {f : Addr} {sp__law_whole : Sp} {sp__law_is : Sp} (m : Mo K mg) (c__law_whole : Cal P w K mg base k "_law_whole" ["value"] sp__law_whole) (c__law_is : Cal P w K mg base k "_law_is" ["given", "due"] sp__law_is) :
    Dv P w K mg base (k + 1) ["given", "due", "k"] "_law_is" (defScope s__law_is) f (defBody s__law_is) (t__law_is K sp__law_whole sp__law_is) := by
  intro cdv A outer s H E hr
  have sc := sc__law_is
  exact (pss_cons (ps_if (PW.pt (pw_or (pt_cmp (pc_isN (pv 1))) (pw_or1 (pt_val (pe_callB call_isi rfl m.n_isinstance boot_isinstance (pa_cons (pv 1) (pa_cons (pe_bltn rfl m.n_bool boot_bool rfl) pa_nil))))))) (pss_one (ps_ret (pe_ifExp (pt_cmp (pc_isN (pv 1))) (pe_cmp (pc_isN (pv 0))) (pe_and (pe_callB call_isi rfl m.n_isinstance boot_isinstance (pa_cons (pv 0) (pa_cons (pe_bltn rfl m.n_bool boot_bool rfl) pa_nil))) (pe_one (pe_cmpR (op_eqA hr.units) (pe_cmpR op_is_bl (pv 0) pe_bl (nomark _)) (pe_cmpR op_is_bl (pv 1) pe_bl (nomark _)) (nomark _)))))))
    pss_nil)
    (pss_cons (ps_if (pt_val (pe_callB call_isi rfl m.n_isinstance boot_isinstance (pa_cons (pv 1) (pa_cons (pe_bltn rfl m.n_int boot_int rfl) pa_nil)))) (pss_one (ps_ret (pe_and (pe_cal c__law_whole (hr.mono (by omega)) rfl (pa_cons (pv 0) pa_nil)) (pe_one (pe_cmpR (op_eqA hr.units) (pe_op op_sub (pe_callTy call_int1 rfl m.n_int boot_int (pa_cons (pv 0) pa_nil)) (pv 1)) pe_int (nomark _))))))
    pss_nil)
    (pss_cons (ps_if (pt_val (pe_callB call_isi rfl m.n_isinstance boot_isinstance (pa_cons (pv 1) (pa_cons (pe_bltn rfl m.n_str boot_str rfl) pa_nil)))) (pss_one (ps_ret (pe_and (pe_callB call_isi rfl m.n_isinstance boot_isinstance (pa_cons (pv 0) (pa_cons (pe_bltn rfl m.n_str boot_str rfl) pa_nil))) (pe_and (pe_cmpR (op_eqA hr.units) (pe_callB call_len rfl m.n_len boot_len (pa_cons (pv 0) pa_nil)) (pe_callB call_len rfl m.n_len boot_len (pa_cons (pv 1) pa_nil)) (nomark _)) (pe_one (pe_cmpR (op_eqA hr.units) (pe_lc (own := [("k", 2)]) rfl sc.nd (pi_range1 rfl m.n_range (pa_cons (pe_callB call_len rfl m.n_len boot_len (pa_cons (pv 1) pa_nil)) pa_nil)) (blkOk_by (N := ["given", "due", "k"]) (sc := defScope s__law_is) (by decide +kernel)) (fun _ _ _ _ _ => (pg_name (i := 2) sc.nd rfl (.inl rfl))) (fun _ _ _ _ _ => (pts_one (pt_cmpR (op_neA hr.units) (pe_slice sl_seq (pv 0) (po_some (pv 2)) (po_some (pe_op op_plus (pv 2) pe_int))) (pe_ix ix_seq (pv 1) (pv 2) (fun _ _ => rfl)) (nomark _)))) (fun _ _ _ _ _ => (pv 2))) (pe_lst pa_nil) (nomark _)))))))
    pss_nil)
    (pss_cons (ps_if (PW.pt (pw_or (pt_not (pt_val (pe_callB call_isiT rfl m.n_isinstance boot_isinstance (pa_cons (pv 1) (pa_cons (pe_tup (pa_cons (pe_bltn rfl m.n_list boot_list rfl) (pa_cons (pe_bltn rfl m.n_tuple boot_tuple rfl) pa_nil))) pa_nil))))) (pw_or (pt_cmpR (op_neA hr.units) (pe_callB call_isi rfl m.n_isinstance boot_isinstance (pa_cons (pv 0) (pa_cons (pe_bltn rfl m.n_list boot_list rfl) pa_nil))) (pe_callB call_isi rfl m.n_isinstance boot_isinstance (pa_cons (pv 1) (pa_cons (pe_bltn rfl m.n_list boot_list rfl) pa_nil))) (nomark _)) (pw_or1 (pt_cmpR (op_neA hr.units) (pe_callB call_isi rfl m.n_isinstance boot_isinstance (pa_cons (pv 0) (pa_cons (pe_bltn rfl m.n_tuple boot_tuple rfl) pa_nil))) (pe_callB call_isi rfl m.n_isinstance boot_isinstance (pa_cons (pv 1) (pa_cons (pe_bltn rfl m.n_tuple boot_tuple rfl) pa_nil))) (nomark _)))))) (pss_one (ps_ret pe_bl))
    pss_nil)
    (pss_one (ps_ret (pe_and (pe_cmpR (op_eqA hr.units) (pe_callB call_len rfl m.n_len boot_len (pa_cons (pv 0) pa_nil)) (pe_callB call_len rfl m.n_len boot_len (pa_cons (pv 1) pa_nil)) (nomark _)) (pe_one (pe_cmpR (op_eqA hr.units) (pe_lc (own := [("k", 2)]) rfl sc.nd (pi_range1 rfl m.n_range (pa_cons (pe_callB call_len rfl m.n_len boot_len (pa_cons (pv 1) pa_nil)) pa_nil)) (blkOk_by (N := ["given", "due", "k"]) (sc := defScope s__law_is) (by decide +kernel)) (fun _ _ _ _ _ => (pg_name (i := 2) sc.nd rfl (.inl rfl))) (fun _ _ _ _ _ => (pts_one (pt_not (pt_val (pe_cal c__law_is (hr.mono (by omega)) rfl (pa_cons (pe_ix ix_seq (pv 0) (pv 2) (fun _ _ => rfl)) (pa_cons (pe_ix ix_seq (pv 1) (pv 2) (fun _ _ => rfl)) pa_nil))))))) (fun _ _ _ _ _ => (pv 2))) (pe_lst pa_nil) (nomark _))))))))))
abbrev s__law_run : Stmt := top 46
theorem sc__law_run : FnScope ["own", "state", "times", "used", "left", "periods", "drop", "made", "most", "lost", "rest", "each"] ["own", "state", "times", "used"] (defScope s__law_run) := ⟨rfl, rfl, rfl, by decide +kernel, rfl, by decide +kernel, by decide +kernel⟩
def t__law_run (K : PySem.W.Frag) : TS :=
  (tSeq (tAsg (tVar 1) (gTup K 2 (gCons (gName 4) (gCons (gName 5) gNil))))
    (tSeq (tIfS (tTest (tOp (rEqA K) (tOp (rIx K) (tVar 0) (tC (.int 2))) (tC (.int 0)))) (tSeq (tAsg (tOp (rI0 fun i j => .int (i - j)) (tVar 3) (tOp (rIx K) (tVar 0) (tC (.int 1)))) (gName 6))
    (tSeq (tIfS (tTest (tOp (rI0 fun i j => .bl (decide (j < i))) (tVar 3) (tVar 4))) (tRet (tTup (tCons (tC .non) (tCons (tC (.int 0)) tNil))))
    tNext)
    (tSeq (tIfS (tTest (tOp (rI0 fun i j => .bl (decide (i ≤ j))) (tVar 6) (tC (.int 0)))) (tRet (tTup (tCons (tTup (tCons (tOp (rI0 fun i j => .int (i - j)) (tVar 4) (tOp (rI CMul fun i j => .int (i * j)) (tVar 2) (tVar 6))) (tCons (tC (.int 0)) tNil))) (tCons (tVar 2) tNil))))
    tNext)
    (tSeq (tAsg (tOp (rPlus K) (tOp (rI CDivW fun i j => .int (i / j)) (tOp (rI0 fun i j => .int (i - j)) (tVar 4) (tVar 3)) (tVar 6)) (tC (.int 1))) (gName 7))
    (tRet (tIf (tTest (tOp (rI0 fun i j => .bl (decide (j ≤ i))) (tVar 7) (tVar 2))) (tTup (tCons (tTup (tCons (tOp (rI0 fun i j => .int (i - j)) (tVar 4) (tOp (rI CMul fun i j => .int (i * j)) (tVar 2) (tVar 6))) (tCons (tC (.int 0)) tNil))) (tCons (tVar 2) tNil))) (tTup (tCons (tC .non) (tCons (tVar 7) tNil)))))))))
    tNext)
    (tSeq (tIfS (tTest (tOp (rEqA K) (tVar 3) (tC (.int 0)))) (tRet (tTup (tCons (tVar 1) (tCons (tVar 2) tNil))))
    tNext)
    (tSeq (tAsg (tCB (rMinA K) (tCons (tVar 2) (tCons (tOp (rI CDivW fun i j => .int (i / j)) (tVar 4) (tVar 3)) tNil))) (gName 8))
    (tSeq (tAsg (tOp (rI0 fun i j => .int (i - j)) (tVar 4) (tOp (rI CMul fun i j => .int (i * j)) (tVar 8) (tVar 3))) (gName 4))
    (tSeq (tIfS (tTest (tOp (rEqA K) (tVar 8) (tVar 2))) (tRet (tTup (tCons (tTup (tCons (tVar 4) (tCons (tVar 5) tNil))) (tCons (tVar 2) tNil))))
    tNext)
    (tSeq (tAsg (tOp (rI CDivW fun i j => .int (i / j)) (tOp (rI0 fun i j => .int (i - j)) (tOp (rI0 fun i j => .int (i - j)) (tVar 3) (tVar 4)) (tC (.int 1))) (tOp (rIx K) (tVar 0) (tC (.int 3)))) (gName 9))
    (tSeq (tIfS (tTest (tOp (rI0 fun i j => .bl (decide (j ≤ i))) (tVar 9) (tVar 5))) (tRet (tTup (tCons (tC .non) (tCons (tVar 8) tNil))))
    tNext)
    (tSeq (tPar3 5 10 11 (tCons (tOp (rI0 fun i j => .int (i - j)) (tVar 5) (tVar 9)) (tCons (tOp (rI0 fun i j => .int (i - j)) (tOp (rI0 fun i j => .int (i - j)) (tVar 2) (tVar 8)) (tC (.int 1))) (tCons (tOp (rI CDivW fun i j => .int (i / j)) (tOp (rI0 fun i j => .int (i - j)) (tVar 3) (tC (.int 1))) (tOp (rIx K) (tVar 0) (tC (.int 3)))) tNil))))
    (tSeq (tIfS (tOr (tTest (tOp (rEqA K) (tVar 11) (tC (.int 0)))) (tTest (tOp (rEqA K) (tVar 10) (tC (.int 0))))) (tRet (tTup (tCons (tTup (tCons (tC (.int 0)) (tCons (tVar 5) tNil))) (tCons (tVar 2) tNil))))
    tNext)
    (tSeq (tAsg (tIf (tTest (tOp (rI0 fun i j => .bl (decide (j < i))) (tVar 5) (tVar 11))) (tOp (rPlus K) (tOp (rI CDivW fun i j => .int (i / j)) (tOp (rI0 fun i j => .int (i - j)) (tOp (rI0 fun i j => .int (i - j)) (tVar 5) (tVar 11)) (tC (.int 1))) (tVar 11)) (tC (.int 1))) (tC (.int 0))) (gName 7))
    (tRet (tIf (tTest (tOp (rI0 fun i j => .bl (decide (j ≤ i))) (tVar 7) (tVar 10))) (tTup (tCons (tTup (tCons (tC (.int 0)) (tCons (tOp (rI0 fun i j => .int (i - j)) (tVar 5) (tOp (rI CMul fun i j => .int (i * j)) (tVar 10) (tVar 11))) tNil))) (tCons (tVar 2) tNil))) (tTup (tCons (tC .non) (tCons (tOp (rPlus K) (tOp (rPlus K) (tVar 8) (tC (.int 1))) (tVar 7)) tNil))))))))))))))))
theorem dv__law_run {P : Program} {w : World} {K : PySem.W.Frag} {mg : Str → Option Value} {base : Heap} {k : Nat} {f : Addr} (m : Mo K mg) :
    Dv P w K mg base (k + 1) ["own", "state", "times", "used", "left", "periods", "drop", "made", "most", "lost", "rest", "each"] "_law_run" (defScope s__law_run) f (defBody s__law_run) (t__law_run K) := by
  intro cdv A outer s H E hr
  have sc := sc__law_run
  exact (pss_cons (ps_asg (pv 1) (pg_tup rfl (pgs_cons (pg_name (i := 4) sc.nd rfl (.inl rfl)) (pgs_cons (pg_name (i := 5) sc.nd rfl (.inl rfl)) pgs_nil))))
    (pss_cons (ps_if (pt_cmpR (op_eqA hr.units) (pe_ix ix_seq (pv 0) pe_int (fun _ _ => rfl)) pe_int (nomark _)) (pss_cons (ps_set (i := 6) sc.nd rfl (Or.inl rfl) (pe_op op_sub (pv 3) (pe_ix ix_seq (pv 0) pe_int (fun _ _ => rfl))))
    (pss_cons (ps_if (pt_cmpR op_gt (pv 3) (pv 4) (nomark _)) (pss_one (ps_ret (pe_tup (pa_cons pe_non (pa_cons pe_int pa_nil)))))
    pss_nil)
    (pss_cons (ps_if (pt_cmpR op_le (pv 6) pe_int (nomark _)) (pss_one (ps_ret (pe_tup (pa_cons (pe_tup (pa_cons (pe_op op_sub (pv 4) (pe_op op_mul (pv 2) (pv 6))) (pa_cons pe_int pa_nil))) (pa_cons (pv 2) pa_nil)))))
    pss_nil)
    (pss_cons (ps_set (i := 7) sc.nd rfl (Or.inl rfl) (pe_op op_plus (pe_op op_fdivW (pe_op op_sub (pv 4) (pv 3)) (pv 6)) pe_int))
    (pss_one (ps_ret (pe_ifExp (pt_cmpR op_ge (pv 7) (pv 2) (nomark _)) (pe_tup (pa_cons (pe_tup (pa_cons (pe_op op_sub (pv 4) (pe_op op_mul (pv 2) (pv 6))) (pa_cons pe_int pa_nil))) (pa_cons (pv 2) pa_nil))) (pe_tup (pa_cons pe_non (pa_cons (pv 7) pa_nil))))))))))
    pss_nil)
    (pss_cons (ps_if (pt_cmpR (op_eqA hr.units) (pv 3) pe_int (nomark _)) (pss_one (ps_ret (pe_tup (pa_cons (pv 1) (pa_cons (pv 2) pa_nil)))))
    pss_nil)
    (pss_cons (ps_set (i := 8) sc.nd rfl (Or.inl rfl) (pe_callB (call_minA rfl) rfl m.n_min boot_min (pa_cons (pv 2) (pa_cons (pe_op op_fdivW (pv 4) (pv 3)) pa_nil))))
    (pss_cons (ps_set (i := 4) sc.nd rfl (Or.inl rfl) (pe_op op_sub (pv 4) (pe_op op_mul (pv 8) (pv 3))))
    (pss_cons (ps_if (pt_cmpR (op_eqA hr.units) (pv 8) (pv 2) (nomark _)) (pss_one (ps_ret (pe_tup (pa_cons (pe_tup (pa_cons (pv 4) (pa_cons (pv 5) pa_nil))) (pa_cons (pv 2) pa_nil)))))
    pss_nil)
    (pss_cons (ps_set (i := 9) sc.nd rfl (Or.inl rfl) (pe_op op_fdivW (pe_op op_sub (pe_op op_sub (pv 3) (pv 4)) pe_int) (pe_ix ix_seq (pv 0) pe_int (fun _ _ => rfl))))
    (pss_cons (ps_if (pt_cmpR op_ge (pv 9) (pv 5) (nomark _)) (pss_one (ps_ret (pe_tup (pa_cons pe_non (pa_cons (pv 8) pa_nil)))))
    pss_nil)
    (pss_cons (ps_par3 (i := 5) (j := 10) (l := 11) rfl sc.nd rfl rfl rfl (by decide) (by decide) (by decide) rfl rfl rfl (pa_cons (pe_op op_sub (pv 5) (pv 9)) (pa_cons (pe_op op_sub (pe_op op_sub (pv 2) (pv 8)) pe_int) (pa_cons (pe_op op_fdivW (pe_op op_sub (pv 3) pe_int) (pe_ix ix_seq (pv 0) pe_int (fun _ _ => rfl))) pa_nil))) rfl)
    (pss_cons (ps_if (PW.pt (pw_or (pt_cmpR (op_eqA hr.units) (pv 11) pe_int (nomark _)) (pw_or1 (pt_cmpR (op_eqA hr.units) (pv 10) pe_int (nomark _))))) (pss_one (ps_ret (pe_tup (pa_cons (pe_tup (pa_cons pe_int (pa_cons (pv 5) pa_nil))) (pa_cons (pv 2) pa_nil)))))
    pss_nil)
    (pss_cons (ps_set (i := 7) sc.nd rfl (Or.inl rfl) (pe_ifExp (pt_cmpR op_gt (pv 5) (pv 11) (nomark _)) (pe_op op_plus (pe_op op_fdivW (pe_op op_sub (pe_op op_sub (pv 5) (pv 11)) pe_int) (pv 11)) pe_int) pe_int))
    (pss_one (ps_ret (pe_ifExp (pt_cmpR op_ge (pv 7) (pv 10) (nomark _)) (pe_tup (pa_cons (pe_tup (pa_cons pe_int (pa_cons (pe_op op_sub (pv 5) (pe_op op_mul (pv 10) (pv 11))) pa_nil))) (pa_cons (pv 2) pa_nil))) (pe_tup (pa_cons pe_non (pa_cons (pe_op op_plus (pe_op op_plus (pv 8) pe_int) (pv 7)) pa_nil)))))))))))))))))
abbrev s__law_states : Stmt := top 47
theorem sc__law_states : FnScope ["own", "uses", "found", "used", "behind"] ["own", "uses"] (defScope s__law_states) := ⟨rfl, rfl, rfl, by decide +kernel, rfl, by decide +kernel, by decide +kernel⟩
def t__law_states (K : PySem.W.Frag) (sp__law_run : Sp) : TS :=
  (tSeq (tAsg (tLst (tCons (tTup (tCons (tOp (rIx K) (tVar 0) (tC (.int 0))) (tCons (tOp (rIx K) (tVar 0) (tC (.int 2))) tNil))) tNil)) (gName 2))
    (tSeq (tFor (iSeq K (tVar 1)) (gName 3) (tSeq (tAsg (tOp (rIx K) (tCall sp__law_run [] E0 (tCons (tVar 0) (tCons (tOp (rIx K) (tVar 2) (tUn (rU fun i => .int (-i)) (tC (.int 1)))) (tCons (tC (.int 1)) (tCons (tVar 3) tNil))))) (tC (.int 0))) (gName 4))
    (tSeq (tIfS (tB (tIsN (tVar 4))) tBreak
    tNext)
    (tDrop (tBM K "list" rAppend (tVar 2) (tCons (tVar 4) tNil))))))
    (tRet (tVar 2))))
theorem dv__law_states {P : Program} {w : World} {K : PySem.W.Frag} {mg : Str → Option Value} {base : Heap} {k : Nat} {f : Addr} {sp__law_run : Sp} (m : Mo K mg) (c__law_run : Cal P w K mg base k "_law_run" ["own", "state", "times", "used"] sp__law_run) :
    Dv P w K mg base (k + 1) ["own", "uses", "found", "used", "behind"] "_law_states" (defScope s__law_states) f (defBody s__law_states) (t__law_states K sp__law_run) := by
  intro cdv A outer s H E hr
  have sc := sc__law_states
  exact (pss_cons (ps_set (i := 2) sc.nd rfl (Or.inl rfl) (pe_lst (pa_cons (pe_tup (pa_cons (pe_ix ix_seq (pv 0) pe_int (fun _ _ => rfl)) (pa_cons (pe_ix ix_seq (pv 0) pe_int (fun _ _ => rfl)) pa_nil))) pa_nil)))
    (pss_cons (ps_for PassesOwn.never rfl (pi_seq (pv 1)) (pg_name (i := 3) sc.nd rfl (.inl rfl)) (pss_cons (ps_set (i := 4) sc.nd rfl (Or.inl rfl) (pe_ix ix_seq (pe_cal c__law_run (hr.mono (by omega)) rfl (pa_cons (pv 0) (pa_cons (pe_ix ix_seq (pv 2) (pe_un un_neg pe_int) (fun _ _ => rfl)) (pa_cons pe_int (pa_cons (pv 3) pa_nil))))) pe_int (fun _ _ => rfl)))
    (pss_cons (ps_if (pt_cmp (pc_isN (pv 4))) (pss_one ps_break)
    pss_nil)
    (pss_one (ps_expr (pe_bm PySem.F.plainAttrs_list PySem.F.slot_list_append PySem.F.type_list_append mt_append (pv 2) (pa_cons (pv 4) pa_nil)))))))
    (pss_one (ps_ret (pv 2)))))
abbrev s__law_clock : Stmt := top 48
theorem sc__law_clock : FnScope ["box", "way", "main"] ["box"] (defScope s__law_clock) := ⟨rfl, rfl, rfl, by decide +kernel, rfl, by decide +kernel, by decide +kernel⟩
def t__law_clock (K : PySem.W.Frag) (sp__law_take : Sp) (sp__law_pick : Sp) : TS :=
  (tSeq (tAsg (tCall sp__law_take [] E0 (tCons (tVar 0) (tCons (tC (.int 6)) tNil))) (gName 1))
    (tSeq (tAsg (tCall sp__law_pick [] E0 (tCons (tVar 0) (tCons (tLst (tCons (tC (.int 0)) (tCons (tC (.int 1)) (tCons (tC (.int 7)) (tCons (tC (.int 60)) (tCons (tC (.int 100000)) (tCons (tOp (rPlus K) (tC (.int 1)) (tCall sp__law_take [] E0 (tCons (tVar 0) (tCons (tC (.int 300)) tNil)))) (tCons (tCall sp__law_take [] E0 (tCons (tVar 0) (tCons (tC (.int 100001)) tNil))) tNil)))))))) tNil))) (gName 2))
    (tSeq (tIfS (tTest (tOp (rEqA K) (tVar 1) (tC (.int 0)))) (tRet (tTup (tCons (tVar 2) (tCons (tC (.int 0)) (tCons (tC (.int 0)) (tCons (tC (.int 0)) tNil))))))
    tNext)
    (tSeq (tIfS (tTest (tOp (rI0 fun i j => .bl (decide (i < j))) (tVar 1) (tC (.int 3)))) (tRet (tTup (tCons (tVar 2) (tCons (tCall sp__law_pick [] E0 (tCons (tVar 0) (tCons (tLst (tCons (tC (.int 1)) (tCons (tC (.int 2)) (tCons (tC (.int 10)) (tCons (tC (.int 10000)) (tCons (tOp (rPlus K) (tC (.int 1)) (tCall sp__law_take [] E0 (tCons (tVar 0) (tCons (tC (.int 60)) tNil)))) (tCons (tOp (rPlus K) (tC (.int 1)) (tCall sp__law_take [] E0 (tCons (tVar 0) (tCons (tC (.int 10000)) tNil)))) tNil))))))) tNil))) (tCons (tC (.int 0)) (tCons (tC (.int 0)) tNil))))))
    tNext)
    (tRet (tTup (tCons (tVar 2) (tCons (tC (.int 0)) (tCons (tCall sp__law_pick [] E0 (tCons (tVar 0) (tCons (tLst (tCons (tC (.int 1)) (tCons (tC (.int 2)) (tCons (tC (.int 3)) (tCons (tC (.int 5)) (tCons (tC (.int 100)) (tCons (tOp (rPlus K) (tC (.int 1)) (tCall sp__law_take [] E0 (tCons (tVar 0) (tCons (tC (.int 100)) tNil)))) tNil))))))) tNil))) (tCons (tCall sp__law_pick [] E0 (tCons (tVar 0) (tCons (tLst (tCons (tC (.int 1)) (tCons (tC (.int 2)) (tCons (tC (.int 7)) (tCons (tC (.int 30)) (tCons (tC (.int 10000)) (tCons (tOp (rPlus K) (tC (.int 1)) (tCall sp__law_take [] E0 (tCons (tVar 0) (tCons (tC (.int 60)) tNil)))) (tCons (tOp (rPlus K) (tC (.int 1)) (tCall sp__law_take [] E0 (tCons (tVar 0) (tCons (tC (.int 10000)) tNil)))) tNil)))))))) tNil))) tNil))))))))))
theorem dv__law_clock {P : Program} {w : World} {K : PySem.W.Frag} {mg : Str → Option Value} {base : Heap} {k : Nat} {f : Addr} {sp__law_take : Sp} {sp__law_pick : Sp} (m : Mo K mg) (c__law_take : Cal P w K mg base k "_law_take" ["box", "many"] sp__law_take) (c__law_pick : Cal P w K mg base k "_law_pick" ["box", "items"] sp__law_pick) :
    Dv P w K mg base (k + 1) ["box", "way", "main"] "_law_clock" (defScope s__law_clock) f (defBody s__law_clock) (t__law_clock K sp__law_take sp__law_pick) := by
  intro cdv A outer s H E hr
  have sc := sc__law_clock
  exact (pss_cons (ps_set (i := 1) sc.nd rfl (Or.inl rfl) (pe_cal c__law_take (hr.mono (by omega)) rfl (pa_cons (pv 0) (pa_cons pe_int pa_nil))))
    (pss_cons (ps_set (i := 2) sc.nd rfl (Or.inl rfl) (pe_cal c__law_pick (hr.mono (by omega)) rfl (pa_cons (pv 0) (pa_cons (pe_lst (pa_cons pe_int (pa_cons pe_int (pa_cons pe_int (pa_cons pe_int (pa_cons pe_int (pa_cons (pe_op op_plus pe_int (pe_cal c__law_take (hr.mono (by omega)) rfl (pa_cons (pv 0) (pa_cons pe_int pa_nil)))) (pa_cons (pe_cal c__law_take (hr.mono (by omega)) rfl (pa_cons (pv 0) (pa_cons pe_int pa_nil))) pa_nil)))))))) pa_nil))))
    (pss_cons (ps_if (pt_cmpR (op_eqA hr.units) (pv 1) pe_int (nomark _)) (pss_one (ps_ret (pe_tup (pa_cons (pv 2) (pa_cons pe_int (pa_cons pe_int (pa_cons pe_int pa_nil)))))))
    pss_nil)
    (pss_cons (ps_if (pt_cmpR op_lt (pv 1) pe_int (nomark _)) (pss_one (ps_ret (pe_tup (pa_cons (pv 2) (pa_cons (pe_cal c__law_pick (hr.mono (by omega)) rfl (pa_cons (pv 0) (pa_cons (pe_lst (pa_cons pe_int (pa_cons pe_int (pa_cons pe_int (pa_cons pe_int (pa_cons (pe_op op_plus pe_int (pe_cal c__law_take (hr.mono (by omega)) rfl (pa_cons (pv 0) (pa_cons pe_int pa_nil)))) (pa_cons (pe_op op_plus pe_int (pe_cal c__law_take (hr.mono (by omega)) rfl (pa_cons (pv 0) (pa_cons pe_int pa_nil)))) pa_nil))))))) pa_nil))) (pa_cons pe_int (pa_cons pe_int pa_nil)))))))
    pss_nil)
    (pss_one (ps_ret (pe_tup (pa_cons (pv 2) (pa_cons pe_int (pa_cons (pe_cal c__law_pick (hr.mono (by omega)) rfl (pa_cons (pv 0) (pa_cons (pe_lst (pa_cons pe_int (pa_cons pe_int (pa_cons pe_int (pa_cons pe_int (pa_cons pe_int (pa_cons (pe_op op_plus pe_int (pe_cal c__law_take (hr.mono (by omega)) rfl (pa_cons (pv 0) (pa_cons pe_int pa_nil)))) pa_nil))))))) pa_nil))) (pa_cons (pe_cal c__law_pick (hr.mono (by omega)) rfl (pa_cons (pv 0) (pa_cons (pe_lst (pa_cons pe_int (pa_cons pe_int (pa_cons pe_int (pa_cons pe_int (pa_cons pe_int (pa_cons (pe_op op_plus pe_int (pe_cal c__law_take (hr.mono (by omega)) rfl (pa_cons (pv 0) (pa_cons pe_int pa_nil)))) (pa_cons (pe_op op_plus pe_int (pe_cal c__law_take (hr.mono (by omega)) rfl (pa_cons (pv 0) (pa_cons pe_int pa_nil)))) pa_nil)))))))) pa_nil))) pa_nil)))))))))))
abbrev s__law_clock_of : Stmt := top 49
theorem sc__law_clock_of : FnScope ["own"] ["own"] (defScope s__law_clock_of) := ⟨rfl, rfl, rfl, by decide +kernel, rfl, by decide +kernel, by decide +kernel⟩
def t__law_clock_of (K : PySem.W.Frag) (sp_Clock__init__ : Sp) : TS :=
  (tRet (tMake (He.ga K "Clock") sp_Clock__init__ [] E0 (tCons (tOp (rIx K) (tVar 0) (tC (.int 0))) (tCons (tOp (rIx K) (tVar 0) (tC (.int 1))) (tCons (tOp (rIx K) (tVar 0) (tC (.int 2))) (tCons (tOp (rIx K) (tVar 0) (tC (.int 3))) tNil))))))
theorem dv__law_clock_of {P : Program} {w : World} {K : PySem.W.Frag} {mg : Str → Option Value} {base : Heap} {k : Nat} {f : Addr} {sp_Clock__init__ : Sp} (m : Mo K mg) (cm_Clock : CalM P w K mg base k "Clock" (He.ga K "Clock") sp_Clock__init__) :
    Dv P w K mg base (k + 1) ["own"] "_law_clock_of" (defScope s__law_clock_of) f (defBody s__law_clock_of) (t__law_clock_of K sp_Clock__init__) := by
  intro cdv A outer s H E hr
  have sc := sc__law_clock_of
  exact (pss_one (ps_ret (pe_calM cm_Clock hr rfl (pa_cons (pe_ix ix_seq (pv 0) pe_int (fun _ _ => rfl)) (pa_cons (pe_ix ix_seq (pv 0) pe_int (fun _ _ => rfl)) (pa_cons (pe_ix ix_seq (pv 0) pe_int (fun _ _ => rfl)) (pa_cons (pe_ix ix_seq (pv 0) pe_int (fun _ _ => rfl)) pa_nil)))))))
abbrev s__law_uses_near : Stmt := top 50
theorem sc__law_uses_near : FnScope ["own", "found", "one"] ["own"] (defScope s__law_uses_near) := ⟨rfl, rfl, rfl, by decide +kernel, rfl, by decide +kernel, by decide +kernel⟩
def t__law_uses_near (K : PySem.W.Frag) : TS :=
  (tSeq (tAsg (tLst (tCons (tC (.int 0)) (tCons (tC (.int 1)) (tCons (tOp (rIx K) (tVar 0) (tC (.int 0))) (tCons (tOp (rPlus K) (tOp (rIx K) (tVar 0) (tC (.int 0))) (tC (.int 1))) (tCons (tOp (rIx K) (tVar 0) (tC (.int 1))) (tCons (tOp (rPlus K) (tOp (rIx K) (tVar 0) (tC (.int 1))) (tC (.int 1))) tNil))))))) (gName 1))
    (tSeq (tIfS (tTest (tOp (rI0 fun i j => .bl (decide (j < i))) (tOp (rIx K) (tVar 0) (tC (.int 2))) (tC (.int 0)))) (tDrop (tBM K "list" rExtend (tVar 1) (tCons (tLst (tCons (tOp (rIx K) (tVar 0) (tC (.int 3))) (tCons (tOp (rPlus K) (tOp (rIx K) (tVar 0) (tC (.int 3))) (tC (.int 1))) (tCons (tOp (rI CMul fun i j => .int (i * j)) (tC (.int 2)) (tOp (rIx K) (tVar 0) (tC (.int 3)))) (tCons (tOp (rPlus K) (tOp (rI CMul fun i j => .int (i * j)) (tC (.int 2)) (tOp (rIx K) (tVar 0) (tC (.int 3)))) (tC (.int 1))) (tCons (tOp (rPlus K) (tOp (rIx K) (tVar 0) (tC (.int 0))) (tOp (rIx K) (tVar 0) (tC (.int 3)))) (tCons (tOp (rPlus K) (tOp (rIx K) (tVar 0) (tC (.int 0))) (tOp (rI CMul fun i j => .int (i * j)) (tOp (rIx K) (tVar 0) (tC (.int 2))) (tOp (rIx K) (tVar 0) (tC (.int 3))))) (tCons (tOp (rPlus K) (tOp (rPlus K) (tOp (rIx K) (tVar 0) (tC (.int 0))) (tOp (rI CMul fun i j => .int (i * j)) (tOp (rIx K) (tVar 0) (tC (.int 2))) (tOp (rIx K) (tVar 0) (tC (.int 3))))) (tC (.int 1))) tNil)))))))) tNil)))
    tNext)
    (tRet (tLc (iSeq K (tVar 1)) (gName 2) (tTest (tOp (rI0 fun i j => .bl (decide (j ≤ i))) (tVar 2) (tC (.int 0)))) (tVar 2) [2]))))
theorem dv__law_uses_near {P : Program} {w : World} {K : PySem.W.Frag} {mg : Str → Option Value} {base : Heap} {k : Nat} {f : Addr} (m : Mo K mg) :
    Dv P w K mg base (k + 1) ["own", "found", "one"] "_law_uses_near" (defScope s__law_uses_near) f (defBody s__law_uses_near) (t__law_uses_near K) := by
  intro cdv A outer s H E hr
  have sc := sc__law_uses_near
  exact (pss_cons (ps_set (i := 1) sc.nd rfl (Or.inl rfl) (pe_lst (pa_cons pe_int (pa_cons pe_int (pa_cons (pe_ix ix_seq (pv 0) pe_int (fun _ _ => rfl)) (pa_cons (pe_op op_plus (pe_ix ix_seq (pv 0) pe_int (fun _ _ => rfl)) pe_int) (pa_cons (pe_ix ix_seq (pv 0) pe_int (fun _ _ => rfl)) (pa_cons (pe_op op_plus (pe_ix ix_seq (pv 0) pe_int (fun _ _ => rfl)) pe_int) pa_nil))))))))
    (pss_cons (ps_if (pt_cmpR op_gt (pe_ix ix_seq (pv 0) pe_int (fun _ _ => rfl)) pe_int (nomark _)) (pss_one (ps_expr (pe_bm PySem.F.plainAttrs_list PySem.F.slot_list_extend PySem.F.type_list_extend mt_extend (pv 1) (pa_cons (pe_lst (pa_cons (pe_ix ix_seq (pv 0) pe_int (fun _ _ => rfl)) (pa_cons (pe_op op_plus (pe_ix ix_seq (pv 0) pe_int (fun _ _ => rfl)) pe_int) (pa_cons (pe_op op_mul pe_int (pe_ix ix_seq (pv 0) pe_int (fun _ _ => rfl))) (pa_cons (pe_op op_plus (pe_op op_mul pe_int (pe_ix ix_seq (pv 0) pe_int (fun _ _ => rfl))) pe_int) (pa_cons (pe_op op_plus (pe_ix ix_seq (pv 0) pe_int (fun _ _ => rfl)) (pe_ix ix_seq (pv 0) pe_int (fun _ _ => rfl))) (pa_cons (pe_op op_plus (pe_ix ix_seq (pv 0) pe_int (fun _ _ => rfl)) (pe_op op_mul (pe_ix ix_seq (pv 0) pe_int (fun _ _ => rfl)) (pe_ix ix_seq (pv 0) pe_int (fun _ _ => rfl)))) (pa_cons (pe_op op_plus (pe_op op_plus (pe_ix ix_seq (pv 0) pe_int (fun _ _ => rfl)) (pe_op op_mul (pe_ix ix_seq (pv 0) pe_int (fun _ _ => rfl)) (pe_ix ix_seq (pv 0) pe_int (fun _ _ => rfl)))) pe_int) pa_nil)))))))) pa_nil))))
    pss_nil)
    (pss_one (ps_ret (pe_lc (own := [("one", 2)]) rfl sc.nd (pi_seq (pv 1)) (blkOk_by (N := ["own", "found", "one"]) (sc := defScope s__law_uses_near) (by decide +kernel)) (fun _ _ _ _ _ => (pg_name (i := 2) sc.nd rfl (.inl rfl))) (fun _ _ _ _ _ => (pts_one (pt_cmpR op_ge (pv 2) pe_int (nomark _)))) (fun _ _ _ _ _ => (pv 2)))))))
abbrev s__law_needed : Stmt := top 51
theorem sc__law_needed : FnScope ["own", "uses", "bonus", "periods", "length", "most", "total", "k", "low", "high", "turn", "middle"] ["own", "uses"] (defScope s__law_needed) := ⟨rfl, rfl, rfl, by decide +kernel, rfl, by decide +kernel, by decide +kernel⟩
def t__law_needed (K : PySem.W.Frag) (sp__law_states : Sp) : TS :=
  (tSeq (tAsg (tVar 0) (gTup K 3 (gCons (gName 2) (gCons (gName 3) (gCons (gName 4) gNil)))))
    (tSeq (tIfS (tTest (tOp (rEqA K) (tVar 3) (tC (.int 0)))) (tSeq (tAsg (tTup (tCons (tC (.int 0)) (tCons (tC (.int 0)) tNil))) (gTup K 2 (gCons (gName 5) (gCons (gName 6) gNil))))
    (tSeq (tFor (iRng1 (tCons (tCB (rLen K) (tCons (tVar 1) tNil)) tNil)) (gName 7) (tSeq (tAsg (tOp (rPlus K) (tVar 6) (tOp (rIx K) (tVar 1) (tVar 7))) (gName 6))
    (tAsg (tCB (rMaxA K) (tCons (tVar 5) (tCons (tOp (rI0 fun i j => .int (i - j)) (tVar 6) (tOp (rI CMul fun i j => .int (i * j)) (tVar 7) (tVar 2))) tNil))) (gName 5))))
    (tRet (tVar 5))))
    tNext)
    (tSeq (tPar 8 9 (tCons (tUn (rU fun i => .int (-i)) (tC (.int 1))) (tCons (tCB (rSum K) (tCons (tVar 1) tNil)) tNil)))
    (tSeq (tFor (iRng1 (tCons (tC (.int 70)) tNil)) (gName 10) (tIfS (tTest (tOp (rI0 fun i j => .bl (decide (j < i))) (tOp (rI0 fun i j => .int (i - j)) (tVar 9) (tVar 8)) (tC (.int 1)))) (tSeq (tAsg (tOp (rI CDiv fun i j => .int (i / j)) (tOp (rPlus K) (tVar 8) (tVar 9)) (tC (.int 2))) (gName 11))
    (tIfS (tTest (tOp (rEqA K) (tCB (rLen K) (tCons (tCall sp__law_states [] E0 (tCons (tTup (tCons (tVar 11) (tCons (tC (.int 0)) (tCons (tVar 3) (tCons (tVar 4) tNil))))) (tCons (tVar 1) tNil))) tNil)) (tOp (rPlus K) (tCB (rLen K) (tCons (tVar 1) tNil)) (tC (.int 1))))) (tAsg (tVar 11) (gName 9))
    (tAsg (tVar 11) (gName 8))))
    tNext))
    (tRet (tVar 9))))))
theorem dv__law_needed {P : Program} {w : World} {K : PySem.W.Frag} {mg : Str → Option Value} {base : Heap} {k : Nat} {f : Addr} {sp__law_states : Sp} (m : Mo K mg) (c__law_states : Cal P w K mg base k "_law_states" ["own", "uses"] sp__law_states) :
    Dv P w K mg base (k + 1) ["own", "uses", "bonus", "periods", "length", "most", "total", "k", "low", "high", "turn", "middle"] "_law_needed" (defScope s__law_needed) f (defBody s__law_needed) (t__law_needed K sp__law_states) := by
  intro cdv A outer s H E hr
  have sc := sc__law_needed
  exact (pss_cons (ps_asg (pv 0) (pg_tup rfl (pgs_cons (pg_name (i := 2) sc.nd rfl (.inl rfl)) (pgs_cons (pg_name (i := 3) sc.nd rfl (.inl rfl)) (pgs_cons (pg_name (i := 4) sc.nd rfl (.inl rfl)) pgs_nil)))))
    (pss_cons (ps_if (pt_cmpR (op_eqA hr.units) (pv 3) pe_int (nomark _)) (pss_cons (ps_asg (pe_tup (pa_cons pe_int (pa_cons pe_int pa_nil))) (pg_tup rfl (pgs_cons (pg_name (i := 5) sc.nd rfl (.inl rfl)) (pgs_cons (pg_name (i := 6) sc.nd rfl (.inl rfl)) pgs_nil))))
    (pss_cons (ps_for PassesOwn.never rfl (pi_range1 rfl m.n_range (pa_cons (pe_callB call_len rfl m.n_len boot_len (pa_cons (pv 1) pa_nil)) pa_nil)) (pg_name (i := 7) sc.nd rfl (.inl rfl)) (pss_cons (ps_set (i := 6) sc.nd rfl (Or.inl rfl) (pe_op op_plus (pv 6) (pe_ix ix_seq (pv 1) (pv 7) (fun _ _ => rfl))))
    (pss_one (ps_set (i := 5) sc.nd rfl (Or.inl rfl) (pe_callB (call_maxA rfl) rfl m.n_max boot_max (pa_cons (pv 5) (pa_cons (pe_op op_sub (pv 6) (pe_op op_mul (pv 7) (pv 2))) pa_nil)))))))
    (pss_one (ps_ret (pv 5)))))
    pss_nil)
    (pss_cons (ps_par (i := 8) (j := 9) rfl sc.nd rfl rfl (by decide) rfl rfl (pa_cons (pe_un un_neg pe_int) (pa_cons (pe_callB (cr_sum rfl) rfl m.n_sum boot_sum (pa_cons (pv 1) pa_nil)) pa_nil)) rfl)
    (pss_cons (ps_for PassesOwn.never rfl (pi_range1 rfl m.n_range (pa_cons pe_int pa_nil)) (pg_name (i := 10) sc.nd rfl (.inl rfl)) (pss_one (ps_if (pt_cmpR op_gt (pe_op op_sub (pv 9) (pv 8)) pe_int (nomark _)) (pss_cons (ps_set (i := 11) sc.nd rfl (Or.inl rfl) (pe_op op_fdiv (pe_op op_plus (pv 8) (pv 9)) pe_int))
    (pss_one (ps_if (pt_cmpR (op_eqA hr.units) (pe_callB call_len rfl m.n_len boot_len (pa_cons (pe_cal c__law_states (hr.mono (by omega)) rfl (pa_cons (pe_tup (pa_cons (pv 11) (pa_cons pe_int (pa_cons (pv 3) (pa_cons (pv 4) pa_nil))))) (pa_cons (pv 1) pa_nil))) pa_nil)) (pe_op op_plus (pe_callB call_len rfl m.n_len boot_len (pa_cons (pv 1) pa_nil)) pe_int) (nomark _)) (pss_one (ps_set (i := 9) sc.nd rfl (Or.inl rfl) (pv 11)))
    (pss_one (ps_set (i := 8) sc.nd rfl (Or.inl rfl) (pv 11))))))
    pss_nil)))
    (pss_one (ps_ret (pv 9)))))))
abbrev s__law_kind : Stmt := top 52
theorem sc__law_kind : FnScope ["box", "own"] ["box"] (defScope s__law_kind) := ⟨rfl, rfl, rfl, by decide +kernel, rfl, by decide +kernel, by decide +kernel⟩
def t__law_kind (K : PySem.W.Frag) (sp__law_clock : Sp) : TS :=
  (tSeq (tAsg (tCall sp__law_clock [] E0 (tCons (tVar 0) tNil)) (gName 1))
    (tRet (tSl (rSlSeq K) (tVar 1) (tPart (tC (.int 1))) tNoPart)))
theorem dv__law_kind {P : Program} {w : World} {K : PySem.W.Frag} {mg : Str → Option Value} {base : Heap} {k : Nat} {f : Addr} {sp__law_clock : Sp} (m : Mo K mg) (c__law_clock : Cal P w K mg base k "_law_clock" ["box"] sp__law_clock) :
    Dv P w K mg base (k + 1) ["box", "own"] "_law_kind" (defScope s__law_kind) f (defBody s__law_kind) (t__law_kind K sp__law_clock) := by
  intro cdv A outer s H E hr
  have sc := sc__law_kind
  exact (pss_cons (ps_set (i := 1) sc.nd rfl (Or.inl rfl) (pe_cal c__law_clock (hr.mono (by omega)) rfl (pa_cons (pv 0) pa_nil)))
    (pss_one (ps_ret (pe_slice sl_seq (pv 1) (po_some pe_int) po_none))))
abbrev s__law_uses : Stmt := top 53
theorem sc__law_uses : FnScope ["box", "kind", "many", "near", "found", "turn"] ["box", "kind", "many"] (defScope s__law_uses) := ⟨rfl, rfl, rfl, by decide +kernel, rfl, by decide +kernel, by decide +kernel⟩
def t__law_uses (K : PySem.W.Frag) (sp__law_uses_near : Sp) (sp__law_take : Sp) (sp__law_pick : Sp) : TS :=
  (tSeq (tAsg (tCall sp__law_uses_near [] E0 (tCons (tTup (tCons (tCall sp__law_take [] E0 (tCons (tVar 0) (tCons (tC (.int 200)) tNil))) (tCons (tOp (rIx K) (tVar 1) (tC (.int 0))) (tCons (tOp (rIx K) (tVar 1) (tC (.int 1))) (tCons (tOp (rIx K) (tVar 1) (tC (.int 2))) tNil))))) tNil)) (gName 3))
    (tSeq (tAsg (tLc (iRng1 (tCons (tVar 2) tNil)) (gName 5) tYes (tOp (rIx K) (tVar 3) (tCall sp__law_take [] E0 (tCons (tVar 0) (tCons (tCB (rLen K) (tCons (tVar 3) tNil)) tNil)))) [5]) (gName 4))
    (tSeq (tIfS (tAnd (tTest (tOp (rEqA K) (tCall sp__law_take [] E0 (tCons (tVar 0) (tCons (tC (.int 6)) tNil))) (tC (.int 0)))) (tTest (tOp (rNeA K) (tVar 4) (tLst tNil)))) (tAsg (tCall sp__law_pick [] E0 (tCons (tVar 0) (tCons (tLst (tCons (tOp (rI CPow fun i j => .int (i ^ j.toNat)) (tC (.int 10)) (tC (.int 12))) (tCons (tOp (rI0 fun i j => .int (i - j)) (tOp (rI CPow fun i j => .int (i ^ j.toNat)) (tC (.int 10)) (tC (.int 12))) (tC (.int 1))) (tCons (tC (.int 99999)) (tCons (tC (.int 100000)) tNil))))) tNil))) (gSub (tVar 4) (tCall sp__law_take [] E0 (tCons (tVar 0) (tCons (tCB (rLen K) (tCons (tVar 4) tNil)) tNil))) rSetL))
    tNext)
    (tRet (tVar 4)))))
theorem dv__law_uses {P : Program} {w : World} {K : PySem.W.Frag} {mg : Str → Option Value} {base : Heap} {k : Nat} {f : Addr} {sp__law_uses_near : Sp} {sp__law_take : Sp} {sp__law_pick : Sp} (m : Mo K mg) (c__law_uses_near : Cal P w K mg base k "_law_uses_near" ["own"] sp__law_uses_near) (c__law_take : Cal P w K mg base k "_law_take" ["box", "many"] sp__law_take) (c__law_pick : Cal P w K mg base k "_law_pick" ["box", "items"] sp__law_pick) :
    Dv P w K mg base (k + 1) ["box", "kind", "many", "near", "found", "turn"] "_law_uses" (defScope s__law_uses) f (defBody s__law_uses) (t__law_uses K sp__law_uses_near sp__law_take sp__law_pick) := by
  intro cdv A outer s H E hr
  have sc := sc__law_uses
  exact (pss_cons (ps_set (i := 3) sc.nd rfl (Or.inr rfl) (pe_cal c__law_uses_near (hr.mono (by omega)) rfl (pa_cons (pe_tup (pa_cons (pe_cal c__law_take (hr.mono (by omega)) rfl (pa_cons (pv 0) (pa_cons pe_int pa_nil))) (pa_cons (pe_ix ix_seq (pv 1) pe_int (fun _ _ => rfl)) (pa_cons (pe_ix ix_seq (pv 1) pe_int (fun _ _ => rfl)) (pa_cons (pe_ix ix_seq (pv 1) pe_int (fun _ _ => rfl)) pa_nil))))) pa_nil)))
    (pss_cons (ps_setLc (i := 4) (own := [("turn", 5)]) rfl sc.nd rfl rfl (sw_true rfl rfl rfl (by decide +kernel)) (pi_range1 rfl m.n_range (pa_cons (pv 2) pa_nil)) (blkOk_by (N := ["box", "kind", "many", "near", "found", "turn"]) (sc := defScope s__law_uses) (by decide +kernel)) (fun _ _ _ _ _ => (pg_name (i := 5) sc.nd rfl (.inl rfl))) (fun _ _ _ _ _ => pts_nil) (fun _ _ _ _ _ => (pe_ix ix_seq (pv 3) (pe_cal c__law_take (hr.mono (by omega)) rfl (pa_cons (pv 0) (pa_cons (pe_callB call_len rfl m.n_len boot_len (pa_cons (pv 3) pa_nil)) pa_nil))) (fun _ _ => rfl))))
    (pss_cons (ps_if (PW.pt (pw_and (pt_cmpR (op_eqA hr.units) (pe_cal c__law_take (hr.mono (by omega)) rfl (pa_cons (pv 0) (pa_cons pe_int pa_nil))) pe_int (nomark _)) (pw_and1 (pt_cmpR (op_neA hr.units) (pv 4) (pe_lst pa_nil) (nomark _))))) (pss_one (ps_asg (pe_cal c__law_pick (hr.mono (by omega)) rfl (pa_cons (pv 0) (pa_cons (pe_lst (pa_cons (pe_op op_pow pe_int pe_int) (pa_cons (pe_op op_sub (pe_op op_pow pe_int pe_int) pe_int) (pa_cons pe_int (pa_cons pe_int pa_nil))))) pa_nil))) (pg_sub (pv 4) (pe_cal c__law_take (hr.mono (by omega)) rfl (pa_cons (pv 0) (pa_cons (pe_callB call_len rfl m.n_len boot_len (pa_cons (pv 4) pa_nil)) pa_nil))) set_list)))
    pss_nil)
    (pss_one (ps_ret (pv 4))))))
abbrev s__law_needed_told : Stmt := top 54
theorem sc__law_needed_told : FnScope ["kind", "uses", "named"] ["kind", "uses", "named"] (defScope s__law_needed_told) := ⟨rfl, rfl, rfl, by decide +kernel, rfl, by decide +kernel, by decide +kernel⟩
def t__law_needed_told (K : PySem.W.Frag) (sp_needed_main : Sp) : TS :=
  (tSeq (tIfS (tB (tVar 2)) (tRet (tCallN 0 (List.length (α := Str) ["uses", "length", "periods", "bonus"]) sp_needed_main (fun vs zs => perm [3, 2, 1, 0] (vs ++ zs)) E0 tNil (tCons (tVar 1) (tCons (tOp (rIx K) (tVar 0) (tC (.int 2))) (tCons (tOp (rIx K) (tVar 0) (tC (.int 1))) (tCons (tOp (rIx K) (tVar 0) (tC (.int 0))) tNil))))))
    tNext)
    (tRet (tCall sp_needed_main [] E0 (tCons (tOp (rIx K) (tVar 0) (tC (.int 0))) (tCons (tOp (rIx K) (tVar 0) (tC (.int 1))) (tCons (tOp (rIx K) (tVar 0) (tC (.int 2))) (tCons (tCB (rTupO K) (tCons (tVar 1) tNil)) tNil)))))))
theorem dv__law_needed_told {P : Program} {w : World} {K : PySem.W.Frag} {mg : Str → Option Value} {base : Heap} {k : Nat} {f : Addr} {sp_needed_main : Sp} (m : Mo K mg) (c_needed_main : Cal P w K mg base k "needed_main" ["bonus", "periods", "length", "uses"] sp_needed_main) (cn_needed_main_3_2_1_0 : CalN P w K mg base k "needed_main" 0 ["uses", "length", "periods", "bonus"] [3, 2, 1, 0] sp_needed_main) :
    Dv P w K mg base (k + 1) ["kind", "uses", "named"] "_law_needed_told" (defScope s__law_needed_told) f (defBody s__law_needed_told) (t__law_needed_told K sp_needed_main) := by
  intro cdv A outer s H E hr
  have sc := sc__law_needed_told
  exact (pss_cons (ps_if (pt_val (pv 2)) (pss_one (ps_ret (pe_calN0 cn_needed_main_3_2_1_0 (hr.mono (by omega)) rfl (pk_cons (pv 1) (pk_cons (pe_ix ix_seq (pv 0) pe_int (fun _ _ => rfl)) (pk_cons (pe_ix ix_seq (pv 0) pe_int (fun _ _ => rfl)) (pk_cons (pe_ix ix_seq (pv 0) pe_int (fun _ _ => rfl)) pk_nil)))))))
    pss_nil)
    (pss_one (ps_ret (pe_cal c_needed_main (hr.mono (by omega)) rfl (pa_cons (pe_ix ix_seq (pv 0) pe_int (fun _ _ => rfl)) (pa_cons (pe_ix ix_seq (pv 0) pe_int (fun _ _ => rfl)) (pa_cons (pe_ix ix_seq (pv 0) pe_int (fun _ _ => rfl)) (pa_cons (pe_callTy call_tuple_of rfl m.n_tuple boot_tuple (pa_cons (pv 1) pa_nil)) pa_nil))))))))
abbrev s__law_main_right : Stmt := top 55
theorem sc__law_main_right : FnScope ["box", "kind", "uses", "named", "due", "clocks", "outs", "more", "other", "dues", "clock"] ["box", "kind", "uses", "named"] (defScope s__law_main_right) := ⟨rfl, rfl, rfl, by decide +kernel, rfl, by decide +kernel, by decide +kernel⟩
def t__law_main_right (K : PySem.W.Frag) (sp__law_needed : Sp) (sp__law_is : Sp) (sp__law_needed_told : Sp) (sp_Clock__init__ : Sp) (sp_run_out : Sp) (sp__law_states : Sp) (sp__law_uses : Sp) : TS :=
  (tSeq (tAsg (tCall sp__law_needed [] E0 (tCons (tVar 1) (tCons (tVar 2) tNil))) (gName 4))
    (tSeq (tIfS (tNot (tB (tCall sp__law_is [] E0 (tCons (tCall sp__law_needed_told [] E0 (tCons (tVar 1) (tCons (tVar 2) (tCons (tVar 3) tNil)))) (tCons (tVar 4) tNil))))) (tRet (tC (.bl false)))
    tNext)
    (tSeq (tIfS (tTest (tOp (rI0 fun i j => .bl (decide (i ≤ j))) (tVar 4) (tC (.int 100000)))) (tSeq (tAsg (tOp (rPlus K) (tLst (tCons (tMake (He.ga K "Clock") sp_Clock__init__ [] E0 (tCons (tVar 4) (tCons (tOp (rIx K) (tVar 1) (tC (.int 0))) (tCons (tOp (rIx K) (tVar 1) (tC (.int 1))) (tCons (tOp (rIx K) (tVar 1) (tC (.int 2))) tNil))))) tNil)) (tIf (tTest (tOp (rI0 fun i j => .bl (decide (j < i))) (tVar 4) (tC (.int 0)))) (tLst (tCons (tMake (He.ga K "Clock") sp_Clock__init__ [] E0 (tCons (tOp (rI0 fun i j => .int (i - j)) (tVar 4) (tC (.int 1))) (tCons (tOp (rIx K) (tVar 1) (tC (.int 0))) (tCons (tOp (rIx K) (tVar 1) (tC (.int 1))) (tCons (tOp (rIx K) (tVar 1) (tC (.int 2))) tNil))))) tNil)) (tLst tNil))) (gName 5))
    (tSeq (tAsg (tLc (iSeq K (tVar 5)) (gName 10) tYes (tIf (tB (tVar 3)) (tCall sp_run_out [] E0 (tCons (tVar 10) (tCons (tVar 2) tNil))) (tCallN 0 (List.length (α := Str) ["uses", "clock"]) sp_run_out (fun vs zs => perm [1, 0] (vs ++ zs)) E0 tNil (tCons (tVar 2) (tCons (tVar 10) tNil)))) [10]) (gName 6))
    (tIfS (tOr (tNot (tB (tCall sp__law_is [] E0 (tCons (tOp (rIx K) (tVar 6) (tC (.int 0))) (tCons (tC .non) tNil))))) (tAnd (tTest (tOp (rI0 fun i j => .bl (decide (j < i))) (tCB (rLen K) (tCons (tVar 6) tNil)) (tC (.int 1)))) (tNot (tB (tCall sp__law_is [] E0 (tCons (tOp (rIx K) (tVar 6) (tC (.int 1))) (tCons (tOp (rI0 fun i j => .int (i - j)) (tCB (rLen K) (tCons (tCall sp__law_states [] E0 (tCons (tOp (rPlus K) (tTup (tCons (tOp (rI0 fun i j => .int (i - j)) (tVar 4) (tC (.int 1))) tNil)) (tVar 1)) (tCons (tVar 2) tNil))) tNil)) (tC (.int 1))) tNil))))))) (tRet (tC (.bl false)))
    tNext)))
    tNext)
    (tSeq (tAsg (tOp (rPlus K) (tVar 2) (tCall sp__law_uses [] E0 (tCons (tVar 0) (tCons (tVar 1) (tCons (tC (.int 3)) tNil))))) (gName 7))
    (tSeq (tAsg (tIf (tTest (tChain (rI0 fun i j => .bl (decide (i < j))) (rI0 fun i j => .bl (decide (i < j))) (tC (.int 0)) (tOp (rIx K) (tVar 1) (tC (.int 1))) (tC (.int 100)))) (tTup (tCons (tOp (rIx K) (tVar 1) (tC (.int 0))) (tCons (tOp (rPlus K) (tOp (rIx K) (tVar 1) (tC (.int 1))) (tC (.int 1))) (tCons (tOp (rIx K) (tVar 1) (tC (.int 2))) tNil)))) (tIf (tTest (tOp (rI0 fun i j => .bl (decide (j < i))) (tOp (rIx K) (tVar 1) (tC (.int 0))) (tC (.int 0)))) (tTup (tCons (tCB (rMinA K) (tCons (tC (.int 10000)) (tCons (tOp (rPlus K) (tOp (rIx K) (tVar 1) (tC (.int 0))) (tC (.int 1))) tNil))) (tCons (tC (.int 0)) (tCons (tC (.int 0)) tNil)))) (tVar 1))) (gName 8))
    (tSeq (tAsg (tLst (tCons (tCall sp__law_needed [] E0 (tCons (tVar 1) (tCons (tSl (rSlSeq K) (tVar 7) tNoPart (tPart (tC (.int 400)))) tNil))) (tCons (tCall sp__law_needed [] E0 (tCons (tVar 8) (tCons (tVar 2) tNil))) tNil))) (gName 9))
    (tRet (tAndV (tChain (rI0 fun i j => .bl (decide (j ≤ i))) (rI0 fun i j => .bl (decide (j ≤ i))) (tOp (rIx K) (tVar 9) (tC (.int 0))) (tVar 4) (tOp (rIx K) (tVar 9) (tC (.int 1)))) (tCall sp__law_is [] E0 (tCons (tLst (tCons (tCall sp__law_needed_told [] E0 (tCons (tVar 1) (tCons (tSl (rSlSeq K) (tVar 7) tNoPart (tPart (tC (.int 400)))) (tCons (tNotV (tVar 3)) tNil)))) (tCons (tCall sp__law_needed_told [] E0 (tCons (tVar 8) (tCons (tVar 2) (tCons (tVar 3) tNil)))) tNil))) (tCons (tVar 9) tNil)))))))))))
theorem dv__law_main_right {P : Program} {w : World} {K : PySem.W.Frag} {mg : Str → Option Value} {base : Heap} {k : Nat} {f : Addr} {sp__law_needed : Sp} {sp__law_is : Sp} {sp__law_needed_told : Sp} {sp_Clock__init__ : Sp} {sp_run_out : Sp} {sp__law_states : Sp} {sp__law_uses : Sp} (m : Mo K mg) (c__law_needed : Cal P w K mg base k "_law_needed" ["own", "uses"] sp__law_needed) (c__law_is : Cal P w K mg base k "_law_is" ["given", "due"] sp__law_is) (c__law_needed_told : Cal P w K mg base k "_law_needed_told" ["kind", "uses", "named"] sp__law_needed_told) (c_run_out : Cal P w K mg base k "run_out" ["clock", "uses"] sp_run_out) (c__law_states : Cal P w K mg base k "_law_states" ["own", "uses"] sp__law_states) (c__law_uses : Cal P w K mg base k "_law_uses" ["box", "kind", "many"] sp__law_uses) (cn_run_out_1_0 : CalN P w K mg base k "run_out" 0 ["uses", "clock"] [1, 0] sp_run_out) (cm_Clock : CalM P w K mg base k "Clock" (He.ga K "Clock") sp_Clock__init__) :
    Dv P w K mg base (k + 1) ["box", "kind", "uses", "named", "due", "clocks", "outs", "more", "other", "dues", "clock"] "_law_main_right" (defScope s__law_main_right) f (defBody s__law_main_right) (t__law_main_right K sp__law_needed sp__law_is sp__law_needed_told sp_Clock__init__ sp_run_out sp__law_states sp__law_uses) := by
  intro cdv A outer s H E hr
  have sc := sc__law_main_right
  exact (pss_cons (ps_set (i := 4) sc.nd rfl (Or.inl rfl) (pe_cal c__law_needed (hr.mono (by omega)) rfl (pa_cons (pv 1) (pa_cons (pv 2) pa_nil))))
    (pss_cons (ps_if (pt_not (pt_val (pe_cal c__law_is (hr.mono (by omega)) rfl (pa_cons (pe_cal c__law_needed_told (hr.mono (by omega)) rfl (pa_cons (pv 1) (pa_cons (pv 2) (pa_cons (pv 3) pa_nil)))) (pa_cons (pv 4) pa_nil))))) (pss_one (ps_ret pe_bl))
    pss_nil)
    (pss_cons (ps_if (pt_cmpR op_le (pv 4) pe_int (nomark _)) (pss_cons (ps_set (i := 5) sc.nd rfl (Or.inl rfl) (pe_op op_plus (pe_lst (pa_cons (pe_calM cm_Clock hr rfl (pa_cons (pv 4) (pa_cons (pe_ix ix_seq (pv 1) pe_int (fun _ _ => rfl)) (pa_cons (pe_ix ix_seq (pv 1) pe_int (fun _ _ => rfl)) (pa_cons (pe_ix ix_seq (pv 1) pe_int (fun _ _ => rfl)) pa_nil))))) pa_nil)) (pe_ifExp (pt_cmpR op_gt (pv 4) pe_int (nomark _)) (pe_lst (pa_cons (pe_calM cm_Clock hr rfl (pa_cons (pe_op op_sub (pv 4) pe_int) (pa_cons (pe_ix ix_seq (pv 1) pe_int (fun _ _ => rfl)) (pa_cons (pe_ix ix_seq (pv 1) pe_int (fun _ _ => rfl)) (pa_cons (pe_ix ix_seq (pv 1) pe_int (fun _ _ => rfl)) pa_nil))))) pa_nil)) (pe_lst pa_nil))))
    (pss_cons (ps_setLc (i := 6) (own := [("clock", 10)]) rfl sc.nd rfl rfl (sw_true rfl rfl rfl (by decide +kernel)) (pi_seq (pv 5)) (blkOk_by (N := ["box", "kind", "uses", "named", "due", "clocks", "outs", "more", "other", "dues", "clock"]) (sc := defScope s__law_main_right) (by decide +kernel)) (fun _ _ _ _ _ => (pg_name (i := 10) sc.nd rfl (.inl rfl))) (fun _ _ _ _ _ => pts_nil) (fun _ _ _ _ _ => (pe_ifExp (pt_val (pv 3)) (pe_cal c_run_out (hr.mono (by omega)) rfl (pa_cons (pv 10) (pa_cons (pv 2) pa_nil))) (pe_calN0 cn_run_out_1_0 (hr.mono (by omega)) rfl (pk_cons (pv 2) (pk_cons (pv 10) pk_nil))))))
    (pss_one (ps_if (PW.pt (pw_or (pt_not (pt_val (pe_cal c__law_is (hr.mono (by omega)) rfl (pa_cons (pe_ix ix_seq (pv 6) pe_int (fun _ _ => rfl)) (pa_cons pe_non pa_nil))))) (pw_or1 (PW.pt (pw_and (pt_cmpR op_gt (pe_callB call_len rfl m.n_len boot_len (pa_cons (pv 6) pa_nil)) pe_int (nomark _)) (pw_and1 (pt_not (pt_val (pe_cal c__law_is (hr.mono (by omega)) rfl (pa_cons (pe_ix ix_seq (pv 6) pe_int (fun _ _ => rfl)) (pa_cons (pe_op op_sub (pe_callB call_len rfl m.n_len boot_len (pa_cons (pe_cal c__law_states (hr.mono (by omega)) rfl (pa_cons (pe_op op_plus (pe_tup (pa_cons (pe_op op_sub (pv 4) pe_int) pa_nil)) (pv 1)) (pa_cons (pv 2) pa_nil))) pa_nil)) pe_int) pa_nil))))))))))) (pss_one (ps_ret pe_bl))
    pss_nil))))
    pss_nil)
    (pss_cons (ps_set (i := 7) sc.nd rfl (Or.inl rfl) (pe_op op_plus (pv 2) (pe_cal c__law_uses (hr.mono (by omega)) rfl (pa_cons (pv 0) (pa_cons (pv 1) (pa_cons pe_int pa_nil))))))
    (pss_cons (ps_set (i := 8) sc.nd rfl (Or.inl rfl) (pe_ifExp (pt_chain op_lt op_lt pe_int (pe_ix ix_seq (pv 1) pe_int (fun _ _ => rfl)) pe_int) (pe_tup (pa_cons (pe_ix ix_seq (pv 1) pe_int (fun _ _ => rfl)) (pa_cons (pe_op op_plus (pe_ix ix_seq (pv 1) pe_int (fun _ _ => rfl)) pe_int) (pa_cons (pe_ix ix_seq (pv 1) pe_int (fun _ _ => rfl)) pa_nil)))) (pe_ifExp (pt_cmpR op_gt (pe_ix ix_seq (pv 1) pe_int (fun _ _ => rfl)) pe_int (nomark _)) (pe_tup (pa_cons (pe_callB (call_minA rfl) rfl m.n_min boot_min (pa_cons pe_int (pa_cons (pe_op op_plus (pe_ix ix_seq (pv 1) pe_int (fun _ _ => rfl)) pe_int) pa_nil))) (pa_cons pe_int (pa_cons pe_int pa_nil)))) (pv 1))))
    (pss_cons (ps_set (i := 9) sc.nd rfl (Or.inl rfl) (pe_lst (pa_cons (pe_cal c__law_needed (hr.mono (by omega)) rfl (pa_cons (pv 1) (pa_cons (pe_slice sl_seq (pv 7) po_none (po_some pe_int)) pa_nil))) (pa_cons (pe_cal c__law_needed (hr.mono (by omega)) rfl (pa_cons (pv 8) (pa_cons (pv 2) pa_nil))) pa_nil))))
    (pss_one (ps_ret (pe_and (pe_chain op_ge op_ge (pe_ix ix_seq (pv 9) pe_int (fun _ _ => rfl)) (pv 4) (pe_ix ix_seq (pv 9) pe_int (fun _ _ => rfl))) (pe_one (pe_cal c__law_is (hr.mono (by omega)) rfl (pa_cons (pe_lst (pa_cons (pe_cal c__law_needed_told (hr.mono (by omega)) rfl (pa_cons (pv 1) (pa_cons (pe_slice sl_seq (pv 7) po_none (po_some pe_int)) (pa_cons (pe_not (pv 3)) pa_nil)))) (pa_cons (pe_cal c__law_needed_told (hr.mono (by omega)) rfl (pa_cons (pv 8) (pa_cons (pv 2) (pa_cons (pv 3) pa_nil)))) pa_nil))) (pa_cons (pv 9) pa_nil)))))))))))))
abbrev s__law_turns : Stmt := top 56
theorem sc__law_turns : FnScope ["black", "white", "uses", "states", "k", "side", "behind"] ["black", "white", "uses"] (defScope s__law_turns) := ⟨rfl, rfl, rfl, by decide +kernel, rfl, by decide +kernel, by decide +kernel⟩
def t__law_turns (K : PySem.W.Frag) (sp__law_run : Sp) : TS :=
  (tSeq (tAsg (tLst (tCons (tTup (tCons (tOp (rIx K) (tVar 0) (tC (.int 0))) (tCons (tOp (rIx K) (tVar 0) (tC (.int 2))) tNil))) (tCons (tTup (tCons (tOp (rIx K) (tVar 1) (tC (.int 0))) (tCons (tOp (rIx K) (tVar 1) (tC (.int 2))) tNil))) tNil))) (gName 3))
    (tSeq (tFor (iRng1 (tCons (tCB (rLen K) (tCons (tVar 2) tNil)) tNil)) (gName 4) (tSeq (tAsg (tOp (rI (fun _ j => 0 < j) fun i j => .int (i % j)) (tCB rIntO (tCons (tVar 4) tNil)) (tC (.int 2))) (gName 5))
    (tSeq (tAsg (tOp (rIx K) (tCall sp__law_run [] E0 (tCons (tOp (rIx K) (tLst (tCons (tVar 0) (tCons (tVar 1) tNil))) (tVar 5)) (tCons (tOp (rIx K) (tVar 3) (tVar 5)) (tCons (tC (.int 1)) (tCons (tOp (rIx K) (tVar 2) (tVar 4)) tNil))))) (tC (.int 0))) (gName 6))
    (tSeq (tIfS (tB (tIsN (tVar 6))) (tRet (tTup (tCons (tTup (tCons (tOp (rPlus K) (tVar 5) (tC (.int 1))) (tCons (tVar 4) tNil))) (tCons (tCB (rTupO K) (tCons (tVar 3) tNil)) tNil))))
    tNext)
    (tAsg (tVar 6) (gSub (tVar 3) (tVar 5) rSetL))))))
    (tRet (tTup (tCons (tC .non) (tCons (tCB (rTupO K) (tCons (tVar 3) tNil)) tNil))))))
theorem dv__law_turns {P : Program} {w : World} {K : PySem.W.Frag} {mg : Str → Option Value} {base : Heap} {k : Nat} {f : Addr} {sp__law_run : Sp} (m : Mo K mg) (c__law_run : Cal P w K mg base k "_law_run" ["own", "state", "times", "used"] sp__law_run) :
    Dv P w K mg base (k + 1) ["black", "white", "uses", "states", "k", "side", "behind"] "_law_turns" (defScope s__law_turns) f (defBody s__law_turns) (t__law_turns K sp__law_run) := by
  intro cdv A outer s H E hr
  have sc := sc__law_turns
  exact (pss_cons (ps_set (i := 3) sc.nd rfl (Or.inl rfl) (pe_lst (pa_cons (pe_tup (pa_cons (pe_ix ix_seq (pv 0) pe_int (fun _ _ => rfl)) (pa_cons (pe_ix ix_seq (pv 0) pe_int (fun _ _ => rfl)) pa_nil))) (pa_cons (pe_tup (pa_cons (pe_ix ix_seq (pv 1) pe_int (fun _ _ => rfl)) (pa_cons (pe_ix ix_seq (pv 1) pe_int (fun _ _ => rfl)) pa_nil))) pa_nil))))
    (pss_cons (ps_for PassesOwn.never rfl (pi_range1 rfl m.n_range (pa_cons (pe_callB call_len rfl m.n_len boot_len (pa_cons (pv 2) pa_nil)) pa_nil)) (pg_name (i := 4) sc.nd rfl (.inl rfl)) (pss_cons (ps_set (i := 5) sc.nd rfl (Or.inl rfl) (pe_op op_mod (pe_callTy call_int1 rfl m.n_int boot_int (pa_cons (pv 4) pa_nil)) pe_int))
    (pss_cons (ps_set (i := 6) sc.nd rfl (Or.inl rfl) (pe_ix ix_seq (pe_cal c__law_run (hr.mono (by omega)) rfl (pa_cons (pe_ix ix_seq (pe_lst (pa_cons (pv 0) (pa_cons (pv 1) pa_nil))) (pv 5) (fun _ _ => rfl)) (pa_cons (pe_ix ix_seq (pv 3) (pv 5) (fun _ _ => rfl)) (pa_cons pe_int (pa_cons (pe_ix ix_seq (pv 2) (pv 4) (fun _ _ => rfl)) pa_nil))))) pe_int (fun _ _ => rfl)))
    (pss_cons (ps_if (pt_cmp (pc_isN (pv 6))) (pss_one (ps_ret (pe_tup (pa_cons (pe_tup (pa_cons (pe_op op_plus (pv 5) pe_int) (pa_cons (pv 4) pa_nil))) (pa_cons (pe_callTy call_tuple_of rfl m.n_tuple boot_tuple (pa_cons (pv 3) pa_nil)) pa_nil)))))
    pss_nil)
    (pss_one (ps_asg (pv 6) (pg_sub (pv 3) (pv 5) set_list)))))))
    (pss_one (ps_ret (pe_tup (pa_cons pe_non (pa_cons (pe_callTy call_tuple_of rfl m.n_tuple boot_tuple (pa_cons (pv 3) pa_nil)) pa_nil)))))))
abbrev s__law_two_right : Stmt := top 57
theorem sc__law_two_right : FnScope ["black", "white", "uses", "named", "due", "one", "other", "told", "again"] ["black", "white", "uses", "named"] (defScope s__law_two_right) := ⟨rfl, rfl, rfl, by decide +kernel, rfl, by decide +kernel, by decide +kernel⟩
def t__law_two_right (K : PySem.W.Frag) (sp__law_turns : Sp) (sp__law_clock_of : Sp) (sp_first_out : Sp) (sp_states_left : Sp) (sp__law_is : Sp) : TS :=
  (tSeq (tAsg (tCall sp__law_turns [] E0 (tCons (tVar 0) (tCons (tVar 1) (tCons (tVar 2) tNil)))) (gName 4))
    (tSeq (tPar 5 6 (tCons (tCall sp__law_clock_of [] E0 (tCons (tVar 0) tNil)) (tCons (tCall sp__law_clock_of [] E0 (tCons (tVar 1) tNil)) tNil)))
    (tSeq (tIfS (tB (tVar 3)) (tAsg (tLst (tCons (tCallN 0 (List.length (α := Str) ["uses", "white", "black"]) sp_first_out (fun vs zs => perm [2, 1, 0] (vs ++ zs)) E0 tNil (tCons (tVar 2) (tCons (tVar 6) (tCons (tVar 5) tNil)))) (tCons (tCall sp_states_left [] E0 (tCons (tVar 5) (tCons (tVar 6) (tCons (tVar 2) tNil)))) tNil))) (gName 7))
    (tAsg (tLst (tCons (tCall sp_first_out [] E0 (tCons (tVar 5) (tCons (tVar 6) (tCons (tCB (rTupO K) (tCons (tVar 2) tNil)) tNil)))) (tCons (tCallN 0 (List.length (α := Str) ["uses", "white", "black"]) sp_states_left (fun vs zs => perm [2, 1, 0] (vs ++ zs)) E0 tNil (tCons (tVar 2) (tCons (tVar 6) (tCons (tVar 5) tNil)))) tNil))) (gName 7)))
    (tSeq (tIfS (tNot (tB (tCall sp__law_is [] E0 (tCons (tVar 7) (tCons (tLst (tCons (tOp (rIx K) (tVar 4) (tC (.int 0))) (tCons (tOp (rIx K) (tVar 4) (tC (.int 1))) tNil))) tNil))))) (tRet (tC (.bl false)))
    tNext)
    (tSeq (tIfS (tAnd (tTest (tOp (rI0 fun i j => .bl (decide (i < j))) (tCB (rLen K) (tCons (tVar 2) tNil)) (tC (.int 400)))) (tTest (tOp (rEqA K) (tOp (rIx K) (tVar 1) (tC (.int 1))) (tC (.int 0))))) (tSeq (tAsg (tCall sp__law_turns [] E0 (tCons (tVar 1) (tCons (tVar 0) (tCons (tOp (rPlus K) (tLst (tCons (tC (.int 0)) tNil)) (tVar 2)) tNil)))) (gName 8))
    (tSeq (tIfS (tOr (tTest (tOp (rNeA K) (tIsN (tOp (rIx K) (tVar 8) (tC (.int 0)))) (tIsN (tOp (rIx K) (tVar 4) (tC (.int 0)))))) (tAnd (tB (tNotN (tOp (rIx K) (tVar 4) (tC (.int 0))))) (tTest (tOp (rNeA K) (tOp (rIx K) (tVar 8) (tC (.int 0))) (tTup (tCons (tOp (rI0 fun i j => .int (i - j)) (tC (.int 3)) (tOp (rIx K) (tOp (rIx K) (tVar 4) (tC (.int 0))) (tC (.int 0)))) (tCons (tOp (rPlus K) (tOp (rIx K) (tOp (rIx K) (tVar 4) (tC (.int 0))) (tC (.int 1))) (tC (.int 1))) tNil))))))) (tRet (tC (.bl false)))
    tNext)
    (tRet (tCall sp__law_is [] E0 (tCons (tCall sp_first_out [] E0 (tCons (tVar 6) (tCons (tVar 5) (tCons (tOp (rPlus K) (tLst (tCons (tC (.int 0)) tNil)) (tVar 2)) tNil)))) (tCons (tOp (rIx K) (tVar 8) (tC (.int 0))) tNil))))))
    tNext)
    (tRet (tC (.bl true))))))))
theorem dv__law_two_right {P : Program} {w : World} {K : PySem.W.Frag} {mg : Str → Option Value} {base : Heap} {k : Nat} {f : Addr} {sp__law_turns : Sp} {sp__law_clock_of : Sp} {sp_first_out : Sp} {sp_states_left : Sp} {sp__law_is : Sp} (m : Mo K mg) (c__law_turns : Cal P w K mg base k "_law_turns" ["black", "white", "uses"] sp__law_turns) (c__law_clock_of : Cal P w K mg base k "_law_clock_of" ["own"] sp__law_clock_of) (c_states_left : Cal P w K mg base k "states_left" ["black", "white", "uses"] sp_states_left) (c_first_out : Cal P w K mg base k "first_out" ["black", "white", "uses"] sp_first_out) (c__law_is : Cal P w K mg base k "_law_is" ["given", "due"] sp__law_is) (cn_first_out_2_1_0 : CalN P w K mg base k "first_out" 0 ["uses", "white", "black"] [2, 1, 0] sp_first_out) (cn_states_left_2_1_0 : CalN P w K mg base k "states_left" 0 ["uses", "white", "black"] [2, 1, 0] sp_states_left) :
    Dv P w K mg base (k + 1) ["black", "white", "uses", "named", "due", "one", "other", "told", "again"] "_law_two_right" (defScope s__law_two_right) f (defBody s__law_two_right) (t__law_two_right K sp__law_turns sp__law_clock_of sp_first_out sp_states_left sp__law_is) := by
  intro cdv A outer s H E hr
  have sc := sc__law_two_right
  exact (pss_cons (ps_set (i := 4) sc.nd rfl (Or.inl rfl) (pe_cal c__law_turns (hr.mono (by omega)) rfl (pa_cons (pv 0) (pa_cons (pv 1) (pa_cons (pv 2) pa_nil)))))
    (pss_cons (ps_par (i := 5) (j := 6) rfl sc.nd rfl rfl (by decide) rfl rfl (pa_cons (pe_cal c__law_clock_of (hr.mono (by omega)) rfl (pa_cons (pv 0) pa_nil)) (pa_cons (pe_cal c__law_clock_of (hr.mono (by omega)) rfl (pa_cons (pv 1) pa_nil)) pa_nil)) rfl)
    (pss_cons (ps_if (pt_val (pv 3)) (pss_one (ps_set (i := 7) sc.nd rfl (Or.inl rfl) (pe_lst (pa_cons (pe_calN0 cn_first_out_2_1_0 (hr.mono (by omega)) rfl (pk_cons (pv 2) (pk_cons (pv 6) (pk_cons (pv 5) pk_nil)))) (pa_cons (pe_cal c_states_left (hr.mono (by omega)) rfl (pa_cons (pv 5) (pa_cons (pv 6) (pa_cons (pv 2) pa_nil)))) pa_nil)))))
    (pss_one (ps_set (i := 7) sc.nd rfl (Or.inl rfl) (pe_lst (pa_cons (pe_cal c_first_out (hr.mono (by omega)) rfl (pa_cons (pv 5) (pa_cons (pv 6) (pa_cons (pe_callTy call_tuple_of rfl m.n_tuple boot_tuple (pa_cons (pv 2) pa_nil)) pa_nil)))) (pa_cons (pe_calN0 cn_states_left_2_1_0 (hr.mono (by omega)) rfl (pk_cons (pv 2) (pk_cons (pv 6) (pk_cons (pv 5) pk_nil)))) pa_nil))))))
    (pss_cons (ps_if (pt_not (pt_val (pe_cal c__law_is (hr.mono (by omega)) rfl (pa_cons (pv 7) (pa_cons (pe_lst (pa_cons (pe_ix ix_seq (pv 4) pe_int (fun _ _ => rfl)) (pa_cons (pe_ix ix_seq (pv 4) pe_int (fun _ _ => rfl)) pa_nil))) pa_nil))))) (pss_one (ps_ret pe_bl))
    pss_nil)
    (pss_cons (ps_if (PW.pt (pw_and (pt_cmpR op_lt (pe_callB call_len rfl m.n_len boot_len (pa_cons (pv 2) pa_nil)) pe_int (nomark _)) (pw_and1 (pt_cmpR (op_eqA hr.units) (pe_ix ix_seq (pv 1) pe_int (fun _ _ => rfl)) pe_int (nomark _))))) (pss_cons (ps_set (i := 8) sc.nd rfl (Or.inl rfl) (pe_cal c__law_turns (hr.mono (by omega)) rfl (pa_cons (pv 1) (pa_cons (pv 0) (pa_cons (pe_op op_plus (pe_lst (pa_cons pe_int pa_nil)) (pv 2)) pa_nil)))))
    (pss_cons (ps_if (PW.pt (pw_or (pt_cmpR (op_neA hr.units) (pe_cmp (pc_isN (pe_ix ix_seq (pv 8) pe_int (fun _ _ => rfl)))) (pe_cmp (pc_isN (pe_ix ix_seq (pv 4) pe_int (fun _ _ => rfl)))) (nomark _)) (pw_or1 (PW.pt (pw_and (pt_cmp (pc_notN (pe_ix ix_seq (pv 4) pe_int (fun _ _ => rfl)))) (pw_and1 (pt_cmpR (op_neA hr.units) (pe_ix ix_seq (pv 8) pe_int (fun _ _ => rfl)) (pe_tup (pa_cons (pe_op op_sub pe_int (pe_ix ix_seq (pe_ix ix_seq (pv 4) pe_int (fun _ _ => rfl)) pe_int (fun _ _ => rfl))) (pa_cons (pe_op op_plus (pe_ix ix_seq (pe_ix ix_seq (pv 4) pe_int (fun _ _ => rfl)) pe_int (fun _ _ => rfl)) pe_int) pa_nil))) (nomark _)))))))) (pss_one (ps_ret pe_bl))
    pss_nil)
    (pss_one (ps_ret (pe_cal c__law_is (hr.mono (by omega)) rfl (pa_cons (pe_cal c_first_out (hr.mono (by omega)) rfl (pa_cons (pv 6) (pa_cons (pv 5) (pa_cons (pe_op op_plus (pe_lst (pa_cons pe_int pa_nil)) (pv 2)) pa_nil)))) (pa_cons (pe_ix ix_seq (pv 8) pe_int (fun _ _ => rfl)) pa_nil)))))))
    pss_nil)
    (pss_one (ps_ret pe_bl)))))))
abbrev s__law_game_right : Stmt := top 58
theorem sc__law_game_right : FnScope ["box", "named", "kinds", "many", "rows", "uses", "k", "mains", "less", "clocks", "side", "main"] ["box", "named"] (defScope s__law_game_right) := ⟨rfl, rfl, rfl, by decide +kernel, rfl, by decide +kernel, by decide +kernel⟩
def t__law_game_right (K : PySem.W.Frag) (sp__law_kind : Sp) (sp__law_pick : Sp) (sp__law_uses : Sp) (sp__law_take : Sp) (sp__law_needed : Sp) (sp__law_two_right : Sp) : TS :=
  (tSeq (tAsg (tLst (tCons (tCall sp__law_kind [] E0 (tCons (tVar 0) tNil)) (tCons (tCall sp__law_kind [] E0 (tCons (tVar 0) tNil)) tNil))) (gName 2))
    (tSeq (tAsg (tCall sp__law_pick [] E0 (tCons (tVar 0) (tCons (tLst (tCons (tC (.int 0)) (tCons (tC (.int 1)) (tCons (tC (.int 2)) (tCons (tC (.int 9)) (tCons (tC (.int 40)) tNil)))))) tNil))) (gName 3))
    (tSeq (tAsg (tLst (tCons (tCall sp__law_uses [] E0 (tCons (tVar 0) (tCons (tOp (rIx K) (tVar 2) (tC (.int 0))) (tCons (tOp (rPlus K) (tVar 3) (tCall sp__law_take [] E0 (tCons (tVar 0) (tCons (tC (.int 2)) tNil)))) tNil)))) (tCons (tCall sp__law_uses [] E0 (tCons (tVar 0) (tCons (tOp (rIx K) (tVar 2) (tC (.int 1))) (tCons (tVar 3) tNil)))) tNil))) (gName 4))
    (tSeq (tAsg (tLst tNil) (gName 5))
    (tSeq (tFor (iRng1 (tCons (tOp (rPlus K) (tCB (rLen K) (tCons (tOp (rIx K) (tVar 4) (tC (.int 0))) tNil)) (tCB (rLen K) (tCons (tOp (rIx K) (tVar 4) (tC (.int 1))) tNil))) tNil)) (gName 6) (tDrop (tBM K "list" rAppend (tVar 5) (tCons (tOp (rIx K) (tOp (rIx K) (tVar 4) (tOp (rI (fun _ j => 0 < j) fun i j => .int (i % j)) (tCB rIntO (tCons (tVar 6) tNil)) (tC (.int 2)))) (tOp (rI CDiv fun i j => .int (i / j)) (tVar 6) (tC (.int 2)))) tNil))))
    (tSeq (tAsg (tLc (iRng1 (tCons (tC (.int 2)) tNil)) (gName 10) tYes (tCall sp__law_needed [] E0 (tCons (tOp (rIx K) (tVar 2) (tVar 10)) (tCons (tOp (rIx K) (tVar 4) (tVar 10)) tNil))) [10]) (gName 7))
    (tSeq (tIfS (tTest (tOp (rI0 fun i j => .bl (decide (j < i))) (tCB (rMaxA K) (tCons (tVar 7) tNil)) (tC (.int 100000)))) (tAsg (tLc (iSeq K (tVar 7)) (gName 11) tYes (tCB (rMinA K) (tCons (tC (.int 100000)) (tCons (tVar 11) tNil))) [11]) (gName 7))
    tNext)
    (tSeq (tFor (iSeq K (tLst (tCons (tTup (tCons (tC (.int 0)) (tCons (tC (.int 0)) tNil))) (tCons (tTup (tCons (tC (.int 1)) (tCons (tC (.int 0)) tNil))) (tCons (tTup (tCons (tC (.int 0)) (tCons (tC (.int 1)) tNil))) (tCons (tTup (tCons (tC (.int 1)) (tCons (tC (.int 1)) tNil))) tNil)))))) (gName 8) (tSeq (tAsg (tLc (iRng1 (tCons (tC (.int 2)) tNil)) (gName 10) tYes (tOp (rPlus K) (tTup (tCons (tCB (rMaxA K) (tCons (tC (.int 0)) (tCons (tOp (rI0 fun i j => .int (i - j)) (tOp (rIx K) (tVar 7) (tVar 10)) (tOp (rIx K) (tVar 8) (tVar 10))) tNil))) tNil)) (tOp (rIx K) (tVar 2) (tVar 10))) [10]) (gName 9))
    (tSeq (tIfS (tNot (tB (tCall sp__law_two_right [] E0 (tCons (tOp (rIx K) (tVar 9) (tC (.int 0))) (tCons (tOp (rIx K) (tVar 9) (tC (.int 1))) (tCons (tVar 5) (tCons (tVar 1) tNil))))))) (tRet (tC (.bl false)))
    tNext)
    (tAsg (tNotV (tVar 1)) (gName 1)))))
    (tRet (tC (.bl true)))))))))))
theorem dv__law_game_right {P : Program} {w : World} {K : PySem.W.Frag} {mg : Str → Option Value} {base : Heap} {k : Nat} {f : Addr} {sp__law_kind : Sp} {sp__law_pick : Sp} {sp__law_uses : Sp} {sp__law_take : Sp} {sp__law_needed : Sp} {sp__law_two_right : Sp} (m : Mo K mg) (c__law_kind : Cal P w K mg base k "_law_kind" ["box"] sp__law_kind) (c__law_pick : Cal P w K mg base k "_law_pick" ["box", "items"] sp__law_pick) (c__law_uses : Cal P w K mg base k "_law_uses" ["box", "kind", "many"] sp__law_uses) (c__law_take : Cal P w K mg base k "_law_take" ["box", "many"] sp__law_take) (c__law_needed : Cal P w K mg base k "_law_needed" ["own", "uses"] sp__law_needed) (c__law_two_right : Cal P w K mg base k "_law_two_right" ["black", "white", "uses", "named"] sp__law_two_right) :
    Dv P w K mg base (k + 1) ["box", "named", "kinds", "many", "rows", "uses", "k", "mains", "less", "clocks", "side", "main"] "_law_game_right" (defScope s__law_game_right) f (defBody s__law_game_right) (t__law_game_right K sp__law_kind sp__law_pick sp__law_uses sp__law_take sp__law_needed sp__law_two_right) := by
  intro cdv A outer s H E hr
  have sc := sc__law_game_right
  exact (pss_cons (ps_set (i := 2) sc.nd rfl (Or.inr rfl) (pe_lst (pa_cons (pe_cal c__law_kind (hr.mono (by omega)) rfl (pa_cons (pv 0) pa_nil)) (pa_cons (pe_cal c__law_kind (hr.mono (by omega)) rfl (pa_cons (pv 0) pa_nil)) pa_nil))))
    (pss_cons (ps_set (i := 3) sc.nd rfl (Or.inl rfl) (pe_cal c__law_pick (hr.mono (by omega)) rfl (pa_cons (pv 0) (pa_cons (pe_lst (pa_cons pe_int (pa_cons pe_int (pa_cons pe_int (pa_cons pe_int (pa_cons pe_int pa_nil)))))) pa_nil))))
    (pss_cons (ps_set (i := 4) sc.nd rfl (Or.inr rfl) (pe_lst (pa_cons (pe_cal c__law_uses (hr.mono (by omega)) rfl (pa_cons (pv 0) (pa_cons (pe_ix ix_seq (pv 2) pe_int (fun _ _ => rfl)) (pa_cons (pe_op op_plus (pv 3) (pe_cal c__law_take (hr.mono (by omega)) rfl (pa_cons (pv 0) (pa_cons pe_int pa_nil)))) pa_nil)))) (pa_cons (pe_cal c__law_uses (hr.mono (by omega)) rfl (pa_cons (pv 0) (pa_cons (pe_ix ix_seq (pv 2) pe_int (fun _ _ => rfl)) (pa_cons (pv 3) pa_nil)))) pa_nil))))
    (pss_cons (ps_set (i := 5) sc.nd rfl (Or.inl rfl) (pe_lst pa_nil))
    (pss_cons (ps_for PassesOwn.never rfl (pi_range1 rfl m.n_range (pa_cons (pe_op op_plus (pe_callB call_len rfl m.n_len boot_len (pa_cons (pe_ix ix_seq (pv 4) pe_int (fun _ _ => rfl)) pa_nil)) (pe_callB call_len rfl m.n_len boot_len (pa_cons (pe_ix ix_seq (pv 4) pe_int (fun _ _ => rfl)) pa_nil))) pa_nil)) (pg_name (i := 6) sc.nd rfl (.inl rfl)) (pss_one (ps_expr (pe_bm PySem.F.plainAttrs_list PySem.F.slot_list_append PySem.F.type_list_append mt_append (pv 5) (pa_cons (pe_ix ix_seq (pe_ix ix_seq (pv 4) (pe_op op_mod (pe_callTy call_int1 rfl m.n_int boot_int (pa_cons (pv 6) pa_nil)) pe_int) (fun _ _ => rfl)) (pe_op op_fdiv (pv 6) pe_int) (fun _ _ => rfl)) pa_nil)))))
    (pss_cons (ps_set (i := 7) sc.nd rfl (Or.inr rfl) (pe_lc (own := [("side", 10)]) rfl sc.nd (pi_range1 rfl m.n_range (pa_cons pe_int pa_nil)) (blkOk_by (N := ["box", "named", "kinds", "many", "rows", "uses", "k", "mains", "less", "clocks", "side", "main"]) (sc := defScope s__law_game_right) (by decide +kernel)) (fun _ _ _ _ _ => (pg_name (i := 10) sc.nd rfl (.inl rfl))) (fun _ _ _ _ _ => pts_nil) (fun _ _ _ _ _ => (pe_cal c__law_needed (hr.mono (by omega)) rfl (pa_cons (pe_ix ix_seq (pv 2) (pv 10) (fun _ _ => rfl)) (pa_cons (pe_ix ix_seq (pv 4) (pv 10) (fun _ _ => rfl)) pa_nil))))))
    (pss_cons (ps_if (pt_cmpR op_gt (pe_callB (call_maxA rfl) rfl m.n_max boot_max (pa_cons (pv 7) pa_nil)) pe_int (nomark _)) (pss_one (ps_set (i := 7) sc.nd rfl (Or.inr rfl) (pe_lc (own := [("main", 11)]) rfl sc.nd (pi_seq (pv 7)) (blkOk_by (N := ["box", "named", "kinds", "many", "rows", "uses", "k", "mains", "less", "clocks", "side", "main"]) (sc := defScope s__law_game_right) (by decide +kernel)) (fun _ _ _ _ _ => (pg_name (i := 11) sc.nd rfl (.inl rfl))) (fun _ _ _ _ _ => pts_nil) (fun _ _ _ _ _ => (pe_callB (call_minA rfl) rfl m.n_min boot_min (pa_cons pe_int (pa_cons (pv 11) pa_nil)))))))
    pss_nil)
    (pss_cons (ps_for PassesOwn.never rfl (pi_seq (pe_lst (pa_cons (pe_tup (pa_cons pe_int (pa_cons pe_int pa_nil))) (pa_cons (pe_tup (pa_cons pe_int (pa_cons pe_int pa_nil))) (pa_cons (pe_tup (pa_cons pe_int (pa_cons pe_int pa_nil))) (pa_cons (pe_tup (pa_cons pe_int (pa_cons pe_int pa_nil))) pa_nil)))))) (pg_name (i := 8) sc.nd rfl (.inr rfl)) (pss_cons (ps_setLc (i := 9) (own := [("side", 10)]) rfl sc.nd rfl rfl (sw_true rfl rfl rfl (by decide +kernel)) (pi_range1 rfl m.n_range (pa_cons pe_int pa_nil)) (blkOk_by (N := ["box", "named", "kinds", "many", "rows", "uses", "k", "mains", "less", "clocks", "side", "main"]) (sc := defScope s__law_game_right) (by decide +kernel)) (fun _ _ _ _ _ => (pg_name (i := 10) sc.nd rfl (.inl rfl))) (fun _ _ _ _ _ => pts_nil) (fun _ _ _ _ _ => (pe_op op_plus (pe_tup (pa_cons (pe_callB (call_maxA rfl) rfl m.n_max boot_max (pa_cons pe_int (pa_cons (pe_op op_sub (pe_ix ix_seq (pv 7) (pv 10) (fun _ _ => rfl)) (pe_ix ix_seq (pv 8) (pv 10) (fun _ _ => rfl))) pa_nil))) pa_nil)) (pe_ix ix_seq (pv 2) (pv 10) (fun _ _ => rfl)))))
    (pss_cons (ps_if (pt_not (pt_val (pe_cal c__law_two_right (hr.mono (by omega)) rfl (pa_cons (pe_ix ix_seq (pv 9) pe_int (fun _ _ => rfl)) (pa_cons (pe_ix ix_seq (pv 9) pe_int (fun _ _ => rfl)) (pa_cons (pv 5) (pa_cons (pv 1) pa_nil))))))) (pss_one (ps_ret pe_bl))
    pss_nil)
    (pss_one (ps_set (i := 1) sc.nd rfl (Or.inl rfl) (pe_not (pv 1)))))))
    (pss_one (ps_ret pe_bl))))))))))
abbrev s_law : Stmt := top 59
theorem sc_law : FnScope ["script", "k", "box", "named", "many", "kind", "turn"] ["script"] (defScope s_law) := ⟨rfl, rfl, rfl, by decide +kernel, rfl, by decide +kernel, by decide +kernel⟩
def t_law (K : PySem.W.Frag) (sp__law_box : Sp) (sp__law_cell : Sp) (sp__law_take : Sp) (sp__law_kind : Sp) (sp__law_main_right : Sp) (sp__law_uses : Sp) (sp__law_game_right : Sp) (sp__law_two_right : Sp) (sp__law_clock : Sp) : TS :=
  (tSeq (tFor (iRng1 (tCons (tCB (rMaxA K) (tCons (tC (.int 2)) (tCons (tCB (rMinA K) (tCons (tC (.int 3)) (tCons (tCB (rLen K) (tCons (tVar 0) tNil)) tNil))) tNil))) tNil)) (gName 1) (tSeq (tAsg (tCall sp__law_box [] E0 (tCons (tCall sp__law_cell [] E0 (tCons (tVar 0) (tCons (tVar 1) tNil))) tNil)) (gName 2))
    (tSeq (tAsg (tOp (rEqA K) (tCall sp__law_take [] E0 (tCons (tVar 2) (tCons (tC (.int 2)) tNil))) (tC (.int 0))) (gName 3))
    (tSeq (tFor (iSeq K (tTup (tCons (tC (.int 0)) (tCons (tC (.int 1)) (tCons (tOp (rPlus K) (tC (.int 2)) (tCall sp__law_take [] E0 (tCons (tVar 2) (tCons (tC (.int 12)) tNil)))) (tCons (tIf (tAnd (tTest (tOp (rEqA K) (tVar 1) (tC (.int 0)))) (tTest (tOp (rEqA K) (tCall sp__law_take [] E0 (tCons (tVar 2) (tCons (tC (.int 4)) tNil))) (tC (.int 0))))) (tC (.int 400)) (tC (.int 30))) tNil)))))) (gName 4) (tSeq (tAsg (tCall sp__law_kind [] E0 (tCons (tVar 2) tNil)) (gName 5))
    (tSeq (tIfS (tNot (tB (tCall sp__law_main_right [] E0 (tCons (tVar 2) (tCons (tVar 5) (tCons (tCall sp__law_uses [] E0 (tCons (tVar 2) (tCons (tVar 5) (tCons (tVar 4) tNil)))) (tCons (tVar 3) tNil))))))) (tRet (tC (.bl false)))
    tNext)
    (tAsg (tNotV (tVar 3)) (gName 3)))))
    (tSeq (tFor (iRng1 (tCons (tC (.int 3)) tNil)) (gName 6) (tIfS (tNot (tB (tCall sp__law_game_right [] E0 (tCons (tVar 2) (tCons (tVar 3) tNil))))) (tRet (tC (.bl false)))
    tNext))
    (tIfS (tNot (tB (tCall sp__law_two_right [] E0 (tCons (tCall sp__law_clock [] E0 (tCons (tVar 2) tNil)) (tCons (tCall sp__law_clock [] E0 (tCons (tVar 2) tNil)) (tCons (tCall sp__law_uses [] E0 (tCons (tVar 2) (tCons (tCall sp__law_kind [] E0 (tCons (tVar 2) tNil)) (tCons (tC (.int 20)) tNil)))) (tCons (tVar 3) tNil))))))) (tRet (tC (.bl false)))
    tNext))))))
    (tRet (tC (.bl true))))
theorem dv_law {P : Program} {w : World} {K : PySem.W.Frag} {mg : Str → Option Value} {base : Heap} {k : Nat} {f : Addr} {sp__law_box : Sp} {sp__law_cell : Sp} {sp__law_take : Sp} {sp__law_kind : Sp} {sp__law_main_right : Sp} {sp__law_uses : Sp} {sp__law_game_right : Sp} {sp__law_two_right : Sp} {sp__law_clock : Sp} (m : Mo K mg) (c__law_box : Cal P w K mg base k "_law_box" ["great"] sp__law_box) (c__law_cell : Cal P w K mg base k "_law_cell" ["script", "k"] sp__law_cell) (c__law_take : Cal P w K mg base k "_law_take" ["box", "many"] sp__law_take) (c__law_kind : Cal P w K mg base k "_law_kind" ["box"] sp__law_kind) (c__law_main_right : Cal P w K mg base k "_law_main_right" ["box", "kind", "uses", "named"] sp__law_main_right) (c__law_uses : Cal P w K mg base k "_law_uses" ["box", "kind", "many"] sp__law_uses) (c__law_game_right : Cal P w K mg base k "_law_game_right" ["box", "named"] sp__law_game_right) (c__law_two_right : Cal P w K mg base k "_law_two_right" ["black", "white", "uses", "named"] sp__law_two_right) (c__law_clock : Cal P w K mg base k "_law_clock" ["box"] sp__law_clock) :
    Dv P w K mg base (k + 1) ["script", "k", "box", "named", "many", "kind", "turn"] "law" (defScope s_law) f (defBody s_law) (t_law K sp__law_box sp__law_cell sp__law_take sp__law_kind sp__law_main_right sp__law_uses sp__law_game_right sp__law_two_right sp__law_clock) := by
  intro cdv A outer s H E hr
  have sc := sc_law
  exact (pss_cons (ps_for PassesOwn.never rfl (pi_range1 rfl m.n_range (pa_cons (pe_callB (call_maxA rfl) rfl m.n_max boot_max (pa_cons pe_int (pa_cons (pe_callB (call_minA rfl) rfl m.n_min boot_min (pa_cons pe_int (pa_cons (pe_callB call_len rfl m.n_len boot_len (pa_cons (pv 0) pa_nil)) pa_nil))) pa_nil))) pa_nil)) (pg_name (i := 1) sc.nd rfl (.inl rfl)) (pss_cons (ps_set (i := 2) sc.nd rfl (Or.inl rfl) (pe_cal c__law_box (hr.mono (by omega)) rfl (pa_cons (pe_cal c__law_cell (hr.mono (by omega)) rfl (pa_cons (pv 0) (pa_cons (pv 1) pa_nil))) pa_nil)))
    (pss_cons (ps_set (i := 3) sc.nd rfl (Or.inl rfl) (pe_cmpR (op_eqA hr.units) (pe_cal c__law_take (hr.mono (by omega)) rfl (pa_cons (pv 2) (pa_cons pe_int pa_nil))) pe_int (nomark _)))
    (pss_cons (ps_for PassesOwn.never rfl (pi_seq (pe_tup (pa_cons pe_int (pa_cons pe_int (pa_cons (pe_op op_plus pe_int (pe_cal c__law_take (hr.mono (by omega)) rfl (pa_cons (pv 2) (pa_cons pe_int pa_nil)))) (pa_cons (pe_ifExp (PW.pt (pw_and (pt_cmpR (op_eqA hr.units) (pv 1) pe_int (nomark _)) (pw_and1 (pt_cmpR (op_eqA hr.units) (pe_cal c__law_take (hr.mono (by omega)) rfl (pa_cons (pv 2) (pa_cons pe_int pa_nil))) pe_int (nomark _))))) pe_int pe_int) pa_nil)))))) (pg_name (i := 4) sc.nd rfl (.inl rfl)) (pss_cons (ps_set (i := 5) sc.nd rfl (Or.inl rfl) (pe_cal c__law_kind (hr.mono (by omega)) rfl (pa_cons (pv 2) pa_nil)))
    (pss_cons (ps_if (pt_not (pt_val (pe_cal c__law_main_right (hr.mono (by omega)) rfl (pa_cons (pv 2) (pa_cons (pv 5) (pa_cons (pe_cal c__law_uses (hr.mono (by omega)) rfl (pa_cons (pv 2) (pa_cons (pv 5) (pa_cons (pv 4) pa_nil)))) (pa_cons (pv 3) pa_nil))))))) (pss_one (ps_ret pe_bl))
    pss_nil)
    (pss_one (ps_set (i := 3) sc.nd rfl (Or.inl rfl) (pe_not (pv 3)))))))
    (pss_cons (ps_for PassesOwn.never rfl (pi_range1 rfl m.n_range (pa_cons pe_int pa_nil)) (pg_name (i := 6) sc.nd rfl (.inl rfl)) (pss_one (ps_if (pt_not (pt_val (pe_cal c__law_game_right (hr.mono (by omega)) rfl (pa_cons (pv 2) (pa_cons (pv 3) pa_nil))))) (pss_one (ps_ret pe_bl))
    pss_nil)))
    (pss_one (ps_if (pt_not (pt_val (pe_cal c__law_two_right (hr.mono (by omega)) rfl (pa_cons (pe_cal c__law_clock (hr.mono (by omega)) rfl (pa_cons (pv 2) pa_nil)) (pa_cons (pe_cal c__law_clock (hr.mono (by omega)) rfl (pa_cons (pv 2) pa_nil)) (pa_cons (pe_cal c__law_uses (hr.mono (by omega)) rfl (pa_cons (pv 2) (pa_cons (pe_cal c__law_kind (hr.mono (by omega)) rfl (pa_cons (pv 2) pa_nil)) (pa_cons pe_int pa_nil)))) (pa_cons (pv 3) pa_nil))))))) (pss_one (ps_ret pe_bl))
    pss_nil)))))))
    (pss_one (ps_ret pe_bl)))
end R78
set_option maxRecDepth 100000
set_option maxHeartbeats 4000000
namespace R78
open PySem PySem.Spec PyProof.Rows L2 Z
section
variable {K : PySem.W.Frag} {Γ : Z.Env} {M : Mem} {E : XK} {t : TA} {a b c d i j h k : Int} {r : Bool} {p q : P} {ps qs : List P} {te : TE} {w : Str}
local macro_rules | `(tactic| get_elem_tactic_trivial) => `(tactic| first
  | exact rv_plus_i | exact rv_ii | exact rv_ib | exact rv_eq_ii | exact rv_ne_ii | exact rv_eq_ss | exact rv_ne_ss | exact rv_eq_bb | exact rv_ne_bb | exact rv_ixT rfl | exact rv_ixL rfl
  | exact rv_plus_t (Nat.le_of_ble_eq_true rfl) | exact rv_plus_l (Nat.le_of_ble_eq_true rfl) | exact rv_plus_s (Nat.le_of_ble_eq_true rfl) | exact rv_isB | exact rv_inL rfl rfl | exact rv_inT rfl rfl | exact rv_ic (by decide))
local macro_rules | `(tactic| decreasing_trivial) => `(tactic| first
  | exact rc_len rfl | exact rc_int | exact rc_intB | exact rc_abs | exact rc_tupleL | exact rc_tupleT | exact rc_list rfl | exact rc_max2 | exact rc_min2)
local macro_rules | `(tactic| trivial) => `(tactic| first
  | exact ep_int | exact ep_str | exact ep_bl | exact ep_non
  | exact ep_var rfl
  | (apply ep_op; trivial; trivial; get_elem_tactic_trivial)
  | (apply ep_cb; trivial; decreasing_trivial)
  | (apply ep_andF; trivial; rfl)
  | (apply ep_andV; trivial; intro _; trivial)
  | (apply ep_orT; trivial; rfl)
  | (apply ep_orV; trivial; intro _; trivial)
  | (apply ep_notV; trivial)
  | (apply ep_isN; trivial) | (apply ep_notN; trivial)
  | (apply ep_un; trivial; exact ru_i)
  | (apply ep_tup; trivial; exact Nat.le_of_ble_eq_true rfl) | (apply ep_lst; trivial; exact Nat.le_of_ble_eq_true rfl)
  | (apply ep_chain; trivial; trivial; get_elem_tactic_trivial; intro _; trivial; intro _; get_elem_tactic_trivial)
  | exact eps_nil | (apply eps_cons; trivial; trivial) | (apply eps_star; trivial; rfl; trivial)
  | (apply ef_ep; trivial)
  | (apply eb_B; trivial) | (apply eb_test; trivial)
  | (apply eb_andF; trivial; rfl)
  | (apply eb_and; trivial; intro _; trivial)
  | (apply eb_orT; trivial; rfl)
  | (apply eb_or; trivial; intro _; trivial)
  | (apply eb_not; trivial)
  | (apply ep_ifT; trivial; rfl; trivial) | (apply ep_ifF; trivial; rfl; trivial)
  | (apply ep_ifI; trivial; intro _; trivial; intro _; trivial) | (apply ep_ifL; trivial; intro _; trivial; intro _; trivial)
  | (apply ep_isi_int; trivial; first | rfl | assumption) | (apply ep_isi_bool; trivial; first | rfl | assumption) | (apply ep_isi_tuple; trivial; first | rfl | assumption) | (apply ep_isi_str; trivial; first | rfl | assumption)
  | (apply ep_isi_list; trivial; first | rfl | assumption) | (apply ep_isi_lt; trivial; first | rfl | assumption))
local macro_rules | `(tactic| trivial) => `(tactic| (apply ep_ixC rfl rfl; rfl))

/-! the script's cell -/
abbrev S_law_cell (K : PySem.W.Frag) : Sp := PF K (fun x : List Int × Int => [.scr (x.1.map .int), .int x.2]) (fun x => 0 ≤ x.2) (fun x r => ∃ i, r = .int i)
theorem pl_law_cell (ns : List Int) (k : Int) (hk : 0 ≤ k) : SV K 0 (t__law_cell K) (startE 2 [.v (.scr (ns.map .int)), .v (.int k)]) [] (DR (fun r => ∃ i, r = .int i)) := by
  unfold t__law_cell
  by_cases hlt : k < (ns.length : Int)
  · have hj : ns[k.toNat]? = some (ns[k.toNat]'(by omega)) := List.getElem?_eq_getElem _
    have hi : atI (ns.map P.int) k = some (.int (ns[k.toNat]'(by omega))) := by
      have e := atI_nat (xs := ns.map P.int) (j := k.toNat) (v := .int (ns[k.toNat]'(by omega))) (by rw [List.getElem?_map, hj]; rfl)
      rwa [Int.toNat_of_nonneg hk] at e
    apply sv_retP; apply ep_ifT
    · apply eb_test; apply ep_op; trivial; (apply ep_cb; apply eps_cons; trivial; exact eps_nil; exact rc_len (n := (ns.map P.int).length) rfl); exact rv_ib
    · exact decide_eq_true (by rw [List.length_map]; exact hlt)
    · apply ep_op; trivial; trivial; exact rv_ixR hi
    · exact ⟨_, .v _, _, rfl⟩
  · apply sv_retP; apply ep_ifF
    · apply eb_test; apply ep_op; trivial; (apply ep_cb; apply eps_cons; trivial; exact eps_nil; exact rc_len (n := (ns.map P.int).length) rfl); exact rv_ib
    · exact decide_eq_false (by rw [List.length_map]; exact hlt)
    · apply ep_op
      · apply ep_op; trivial; trivial; exact rv_ic (.inl ⟨by decide, by decide⟩)
      · apply ep_op
        · apply ep_cb; apply eps_cons; apply ep_cb; apply eps_cons
          · apply ep_is (ep_sl (ep_var rfl) eo_none (eo_some ep_int) slv_r) (by rw [cut_ints])
          · exact eps_nil
          · exact rc_sum
          · exact eps_nil
          · exact rc_int
        · trivial
        · exact rv_ic (by decide)
      · exact rv_plus_i
    · exact ⟨_, .v _, _, rfl⟩
theorem ca_law_cell {ns : List Int} (hh : EPs K t Γ M [.scr (ns.map .int), .int k]) (hk : 0 ≤ k) {Φ : Mem → D → Prop} (hr : ∀ i, Φ M (.v (.int i))) : EV K (tCall (S_law_cell K) [] E t) Γ M Φ :=
  ev_call (ea_ep hh ⟨(ns, k), rfl, hk, fun p ⟨i, e⟩ => by subst e; exact hr i⟩)
/-! the box -/
abbrev Rbox (cs : List MC) (d : D) : Prop := ∃ c, cs = [c] ∧ Bx 0 c ∧ d = .c 0
abbrev S_law_box (K : PySem.W.Frag) : Sp := PC K (fun i : Int => [.int i]) (fun _ => True) (fun _ => Rbox)
theorem pl_law_box (i : Int) : SV K 0 (t__law_box K) (startE 1 [.v (.int i)]) [] { nx := fun _ _ => False, rt := fun M d => Rbox M d } := by
  unfold t__law_box
  apply sv_ret; apply ev_cell; apply en_lst; apply ea_ep
  · apply eps_cons; trivial; apply eps_cons; (apply ep_op; trivial; (apply ep_op; trivial; trivial; exact rv_ic ⟨by decide, by decide, by decide⟩); exact rv_ib); apply eps_cons; (apply ep_op; (apply ep_cb; apply eps_cons; trivial; exact eps_nil; exact rc_int); trivial; exact rv_ic (by decide)); apply eps_cons; trivial; exact eps_nil
  · refine ⟨Nat.le_of_ble_eq_true rfl, _, rfl, ⟨_, _, _, _, rfl, ?_, ?_, ?_, by decide, by decide⟩, rfl⟩
    · split <;> omega
    · exact Int.emod_nonneg _ (by decide)
    · exact Int.lt_of_lt_of_le (Int.emod_lt_of_pos _ (by decide)) (by decide)
abbrev S_law_take (K : PySem.W.Frag) : Sp := BF K (fun m : Int => [.int m]) (fun m => 0 < m ∧ m < 1073741824) (fun _ => 1) (fun m r => ∃ i, 0 ≤ i ∧ i < m ∧ r = .int i)
theorem pl_law_take (m : Int) (n : Nat) (c : MC) (hm : 0 < m ∧ m < 1073741824) (hb : Bx n c) (hn : n + 1 ≤ 1000000000) : SV K 1 (t__law_take K) (startE 4 [.c 0, .v (.int m)]) [c]
    { nx := fun _ M => (∃ i, 0 ≤ i ∧ i < m ∧ P.non = .int i) ∧ ∃ c' M', M = c' :: M' ∧ Bx (n + 1) c', rt := fun M d => ∃ p, Fz 1 M d p ∧ (∃ i, 0 ≤ i ∧ i < m ∧ p = .int i) ∧ ∃ c' M', M = c' :: M' ∧ Bx (n + 1) c' } := by
  obtain ⟨a, g, x, d, rfl, ha, hx0, hx1, hd0, hd1⟩ := hb
  unfold t__law_take
  have hmod : ∀ y : Int, 0 ≤ y % m ∧ y % m < m := fun y => ⟨Int.emod_nonneg _ (by omega), Int.emod_lt_of_pos _ hm.1⟩
  have tst : EB K (tAnd (tB (tOp (rIx K) (tVar 0) (tC (.int 1)))) (tTest (tOp (rI0 fun i j => .bl (decide (j < i))) (tOp (rIx K) (tVar 0) (tC (.int 0))) (tC (.int 0))))) (startE 4 [.c 0, .v (.int m)]) [.l [.v (.int a), .v (.bl g), .v (.int x), .v (.int d)]] (g && decide (0 < a)) := by
    apply eb_and; trivial; intro _; trivial
  apply sv_seq; apply sv_ifB tst
  · intro hg
    apply sv_seq; apply sv_set; (apply ep_op; (apply ep_cb; apply eps_cons; trivial; exact eps_nil; exact rc_int); trivial; exact rv_ic hm.1)
    apply sv_seq; apply sv_setitem; apply ev_ep; (apply ep_op; trivial; trivial; exact rv_ic hm)
    apply ev_var rfl; refine ⟨0, rfl, ?_⟩
    apply ev_ep; trivial; refine ⟨0, 0, _, rfl, rfl, rfl, ?_⟩
    apply sv_retP; trivial
    have h1 : 0 ≤ a / m := Int.ediv_nonneg ha (Int.le_of_lt hm.1)
    exact ⟨_, .v _, ⟨_, (hmod a).1, (hmod a).2, rfl⟩, _, _, rfl, a / m, g, x, d, rfl, h1, hx0, hx1, hd0, by omega⟩
  · intro _
    apply sv_next
    apply sv_seq; apply sv_setitem; apply ev_ep; (apply ep_op; trivial; trivial; exact rv_plus_i)
    apply ev_var rfl; refine ⟨0, rfl, ?_⟩
    apply ev_ep; trivial; refine ⟨3, 3, _, rfl, rfl, rfl, ?_⟩
    have e0 : (x + 15487567 * (d + 1) + 179426459).natAbs < 2 ^ 64 := by omega
    apply sv_seq; apply sv_set
    · apply ep_op
      · apply ep_cb; apply eps_cons
        · apply ep_op
          · apply ep_op
            · apply ep_op; trivial; (apply ep_op; trivial; trivial; exact rv_ic (.inl ⟨by decide, by decide⟩)); exact rv_plus_i
            · trivial
            · exact rv_plus_i
          · trivial
          · exact rv_ic ⟨by decide, by decide, e0⟩
        · exact eps_nil
        · exact rc_int
      · trivial
      · exact rv_ic (by decide)
    have y0 : 0 ≤ ((x + 15487567 * (d + 1) + 179426459) ^ (5 : Int).toNat % 2147483647) := Int.emod_nonneg _ (by decide)
    have y1 : ((x + 15487567 * (d + 1) + 179426459) ^ (5 : Int).toNat % 2147483647) < 2147483647 := Int.emod_lt_of_pos _ (by decide)
    generalize hy : ((x + 15487567 * (d + 1) + 179426459) ^ (5 : Int).toNat % 2147483647) = y at y0 y1 ⊢
    have e1 : (y * 48271 + 9215 * (d + 1)).natAbs < 2 ^ 64 := by omega
    apply sv_retP
    · apply ep_op
      · apply ep_cb; apply eps_cons
        · apply ep_op
          · apply ep_op
            · apply ep_cb; apply eps_cons
              · apply ep_op
                · apply ep_op; (apply ep_op; trivial; trivial; exact rv_ic (.inr ⟨by decide, by decide⟩)); (apply ep_op; trivial; trivial; exact rv_ic (.inl ⟨by decide, by decide⟩)); exact rv_plus_i
                · trivial
                · exact rv_ic ⟨by decide, by decide, e1⟩
              · exact eps_nil
              · exact rc_int
            · trivial
            · exact rv_ic (by decide)
          · trivial
          · exact rv_ic ⟨by decide, by decide⟩
        · exact eps_nil
        · exact rc_int
      · trivial
      · exact rv_ic hm.1
    · exact ⟨_, .v _, ⟨_, (hmod _).1, (hmod _).2, rfl⟩, _, _, rfl, a, g, x, d + 1, rfl, ha, hx0, hx1, by omega, by omega⟩
end
end R78
set_option maxRecDepth 100000
set_option maxHeartbeats 4000000
namespace R78
open PySem PySem.Spec PyProof.Rows L2 Z
section
variable {K : PySem.W.Frag} {Γ : Z.Env} {M : Mem} {E : XK} {t : TA} {a b c d i j h k : Int} {r : Bool} {p q : P} {ps qs : List P} {te : TE} {w : Str}
local macro_rules | `(tactic| get_elem_tactic_trivial) => `(tactic| first
  | exact rv_plus_i | exact rv_ii | exact rv_ib | exact rv_eq_ii | exact rv_ne_ii | exact rv_eq_ss | exact rv_ne_ss | exact rv_eq_bb | exact rv_ne_bb | exact rv_ixT rfl | exact rv_ixL rfl
  | exact rv_plus_t (Nat.le_of_ble_eq_true rfl) | exact rv_plus_l (Nat.le_of_ble_eq_true rfl) | exact rv_plus_s (Nat.le_of_ble_eq_true rfl) | exact rv_isB | exact rv_inL rfl rfl | exact rv_inT rfl rfl | exact rv_ic (by decide))
local macro_rules | `(tactic| decreasing_trivial) => `(tactic| first
  | exact rc_len rfl | exact rc_int | exact rc_intB | exact rc_abs | exact rc_tupleL | exact rc_tupleT | exact rc_list rfl | exact rc_max2 | exact rc_min2)
local macro_rules | `(tactic| trivial) => `(tactic| first
  | exact ep_int | exact ep_str | exact ep_bl | exact ep_non
  | exact ep_var rfl
  | (apply ep_op; trivial; trivial; get_elem_tactic_trivial)
  | (apply ep_cb; trivial; decreasing_trivial)
  | (apply ep_andF; trivial; rfl)
  | (apply ep_andV; trivial; intro _; trivial)
  | (apply ep_orT; trivial; rfl)
  | (apply ep_orV; trivial; intro _; trivial)
  | (apply ep_notV; trivial)
  | (apply ep_isN; trivial) | (apply ep_notN; trivial)
  | (apply ep_un; trivial; exact ru_i)
  | (apply ep_tup; trivial; exact Nat.le_of_ble_eq_true rfl) | (apply ep_lst; trivial; exact Nat.le_of_ble_eq_true rfl)
  | (apply ep_chain; trivial; trivial; get_elem_tactic_trivial; intro _; trivial; intro _; get_elem_tactic_trivial)
  | exact eps_nil | (apply eps_cons; trivial; trivial) | (apply eps_star; trivial; rfl; trivial)
  | (apply ef_ep; trivial)
  | (apply eb_B; trivial) | (apply eb_test; trivial)
  | (apply eb_andF; trivial; rfl)
  | (apply eb_and; trivial; intro _; trivial)
  | (apply eb_orT; trivial; rfl)
  | (apply eb_or; trivial; intro _; trivial)
  | (apply eb_not; trivial)
  | (apply ep_ifT; trivial; rfl; trivial) | (apply ep_ifF; trivial; rfl; trivial)
  | (apply ep_ifI; trivial; intro _; trivial; intro _; trivial) | (apply ep_ifL; trivial; intro _; trivial; intro _; trivial)
  | (apply ep_isi_int; trivial; first | rfl | assumption) | (apply ep_isi_bool; trivial; first | rfl | assumption) | (apply ep_isi_tuple; trivial; first | rfl | assumption) | (apply ep_isi_str; trivial; first | rfl | assumption)
  | (apply ep_isi_list; trivial; first | rfl | assumption) | (apply ep_isi_lt; trivial; first | rfl | assumption))
local macro_rules | `(tactic| trivial) => `(tactic| (apply ep_ixC rfl rfl; rfl))

abbrev S_law_pick (K : PySem.W.Frag) : Sp := BF K (fun x : Bool × List P => [sqP x.1 x.2]) (fun x => 0 < x.2.length ∧ x.2.length < 100000) (fun _ => 1) (fun x r => r ∈ x.2)
theorem pl_law_pick (b : Bool) (ps : List P) (n : Nat) (c : MC) (hl : 0 < ps.length ∧ ps.length < 100000) (hb : Bx n c) (hn : n + 1 ≤ 1000000000) : SV K 1 (t__law_pick K (S_law_take K)) (startE 2 [.c 0, .v (sqP b ps)]) [c]
    { nx := fun _ M => P.non ∈ ps ∧ ∃ c' M', M = c' :: M' ∧ Bx (n + 1) c', rt := fun M d => ∃ p, Fz 1 M d p ∧ p ∈ ps ∧ ∃ c' M', M = c' :: M' ∧ Bx (n + 1) c' } := by
  unfold t__law_pick
  have hlen : lenP (sqP b ps) = some ps.length := by cases b <;> rfl
  apply sv_ret; apply ev_op; apply ev_var rfl; refine ⟨_, rfl, ?_⟩
  refine ev_bx rfl (eps_cons (ep_cb (eps_cons (ep_var rfl) eps_nil) (rc_len hlen)) eps_nil) rfl hb ((ps.length : Nat) : Int) rfl (by omega) hn ?_
  rintro p c' ⟨i, i0, i1, rfl⟩ hb'
  have hj : ps[i.toNat]? = some (ps[i.toNat]'(by omega)) := List.getElem?_eq_getElem _
  have hi : atI ps i = some (ps[i.toNat]'(by omega)) := by
    have e := atI_nat hj
    rwa [Int.toNat_of_nonneg i0] at e
  refine ⟨_, rfl, _, by cases b <;> first | exact rv_ixL hi | exact rv_ixT hi, _, .v _, List.mem_of_getElem? hj, c', [], rfl, hb'⟩
abbrev S_law_whole (K : PySem.W.Frag) : Sp := PF K (fun p : P => [p]) (fun p => isInsP p = none) (fun p r => r = .bl (pI p && !pB p))
theorem pl_law_whole (p : P) (hp : isInsP p = none) : SV K 0 (t__law_whole K) (startE 1 [.v p]) [] (DR (· = .bl (pI p && !pB p))) := by
  unfold t__law_whole
  apply sv_retP; trivial; exact fz_is rfl
theorem ca_law_whole (hh : EPs K t Γ M [p]) (hn : isInsP p = none) : Z.EP K (tCall (S_law_whole K) [] E t) Γ M (.bl (pI p && !pB p)) := ep_call hh p rfl hn (fun _ h => h)
abbrev S_law_is (K : PySem.W.Frag) (n : Nat) : Sp := PF K (fun p : P => [p, p]) (fun p => okq n p = true) (fun _ r => r = .bl true)
theorem ca_law_is {n : Nat} (hh : EPs K t Γ M [p, q]) (e : p = q) (ho : okq n p = true) : Z.EP K (tCall (S_law_is K n) [] E t) Γ M (.bl true) := ep_call hh p (by rw [e]) ho (fun _ h => h)
theorem ce_law_is {n : Nat} (hh : EFs K t Γ M [p, q]) (e : p = q) (ho : okq n p = true) : Z.EP K (tCall (S_law_is K n) [] E t) Γ M (.bl true) := ef_call hh p (by rw [e]) ho (fun _ h => h) rfl
theorem pl_law_is (n : Nat) (p : P) (hp : okq (n + 1) p = true) : SV K 0 (t__law_is K (S_law_whole K) (S_law_is K n)) (startE 3 [.v p, .v p]) [] (DR (· = .bl true)) := by
  unfold t__law_is
  cases p with
  | non => apply sv_seq; apply sv_ifT; trivial; rfl; apply sv_retP; trivial; exact fz_is rfl
  | bl b =>
    apply sv_seq; apply sv_ifT; (apply eb_or; trivial; intro _; trivial); rfl; apply sv_retP
    · apply ep_ifF; trivial; rfl; apply ep_andV; trivial; intro _; apply ep_op; trivial; trivial; exact rv_eq_bb
    · apply fz_is; cases b <;> rfl
  | int i =>
    apply sv_seq; apply sv_ifF; trivial; rfl; apply sv_next; apply sv_seq; apply sv_ifT; trivial; rfl; apply sv_retP
    · apply ep_andV; (apply ca_law_whole; trivial; rfl); intro _; trivial
    · apply fz_is
      show P.bl (true && decide (i - i = 0)) = .bl true
      rw [Int.sub_self]
      rfl
  | str s =>
    have hs : s.cps.size < 1000 := by simpa [okq] using hp
    have hs2 : s.length = s.cps.size := rfl
    have hs3 : s.length ≤ sizeLine := by rw [hs2]; exact Nat.le_trans (Nat.le_of_lt hs) (by decide)
    have hlp : lenP (.str s) = some s.length := if_pos hs3
    apply sv_seq; apply sv_ifF; trivial; rfl; apply sv_next; apply sv_seq; apply sv_ifF; trivial; rfl; apply sv_next; apply sv_seq; apply sv_ifT; trivial; rfl; apply sv_retP
    · apply ep_andV; trivial; intro _; apply ep_andV
      · apply ep_op; (apply ep_cb; trivial; exact rc_len (n := s.length) hlp); (apply ep_cb; trivial; exact rc_len (n := s.length) hlp); exact rv_eq_ii
      · intro _
        apply ep_op
        · refine ep_lc0 (tgt_name (by decide)) (eip_range1 (eps_cons (ep_cb (eps_cons (ep_var rfl) eps_nil) (rc_len (n := s.length) hlp)) eps_nil) (by omega) (by omega)) (by rw [rangeP_len, Int.toNat_natCast]; omega) ?_
          intro i q hq
          rw [Int.toNat_natCast] at hq
          obtain ⟨hi, rfl⟩ := rangeP_at hq
          rw [Int.zero_add]
          apply gv_name
          have hx : s.cps.toList[i]? = some (s.cps.toList[i]'(by simpa [hs2] using hi)) := List.getElem?_eq_getElem _
          refine eb_is (eb_test (ep_op (ep_sl (ep_var rfl) (eo_some (ep_var rfl)) (eo_some (ep_op (ep_var rfl) ep_int rv_plus_i)) (slv_s hs3)) (ep_op (ep_var rfl) (ep_var rfl) (rv_ixS hs3 (atI_nat hx))) rv_ne_ss)) ?_
          rw [cut_one hx]
          simp
        · trivial
        · exact rv_eq_d (n := 4) rfl rfl (by decide)
    · apply fz_is
      rw [decide_eq_true (rfl : ((s.length : Nat) : Int) = ((s.length : Nat) : Int))]
      rfl
  | tup ds =>
    have hp2 : (decide (ds.length < 1000) && okqs n ds) = true := by simpa [okq] using hp
    rw [Bool.and_eq_true, decide_eq_true_eq] at hp2
    obtain ⟨hl, ho⟩ := hp2
    apply sv_seq; apply sv_ifF; trivial; rfl; apply sv_next; apply sv_seq; apply sv_ifF; trivial; rfl; apply sv_next; apply sv_seq; apply sv_ifF; trivial; rfl; apply sv_next; apply sv_seq; apply sv_ifF
    · apply eb_or; trivial; intro _; apply eb_or; trivial; intro _; trivial
    · rfl
    apply sv_next; apply sv_retP
    · apply ep_andV
      · apply ep_op; (apply ep_cb; trivial; exact rc_len (n := ds.length) rfl); (apply ep_cb; trivial; exact rc_len (n := ds.length) rfl); exact rv_eq_ii
      · intro _
        apply ep_op
        · refine ep_lc0 (tgt_name (by decide)) (eip_range1 (eps_cons (ep_cb (eps_cons (ep_var rfl) eps_nil) (rc_len (n := ds.length) rfl)) eps_nil) (by omega) (by omega)) (by rw [rangeP_len, Int.toNat_natCast]; omega) ?_
          intro i q hq
          rw [Int.toNat_natCast] at hq
          obtain ⟨hi, rfl⟩ := rangeP_at hq
          rw [Int.zero_add]
          apply gv_name
          have hx : ds[i]? = some (ds[i]'hi) := List.getElem?_eq_getElem _
          exact eb_not (eb_B (ca_law_is (eps_cons (ep_op (ep_var rfl) (ep_var rfl) (rv_ixT (atI_nat hx))) (eps_cons (ep_op (ep_var rfl) (ep_var rfl) (rv_ixT (atI_nat hx))) eps_nil)) rfl (okqs_at ho hx)))
        · trivial
        · exact rv_eq_d (n := 4) rfl rfl (by decide)
    · apply fz_is
      rw [decide_eq_true (rfl : ((ds.length : Nat) : Int) = ((ds.length : Nat) : Int))]
      rfl
  | lst ds =>
    have hp2 : (decide (ds.length < 1000) && okqs n ds) = true := by simpa [okq] using hp
    rw [Bool.and_eq_true, decide_eq_true_eq] at hp2
    obtain ⟨hl, ho⟩ := hp2
    apply sv_seq; apply sv_ifF; trivial; rfl; apply sv_next; apply sv_seq; apply sv_ifF; trivial; rfl; apply sv_next; apply sv_seq; apply sv_ifF; trivial; rfl; apply sv_next; apply sv_seq; apply sv_ifF
    · apply eb_or; trivial; intro _; apply eb_or; trivial; intro _; trivial
    · rfl
    apply sv_next; apply sv_retP
    · apply ep_andV
      · apply ep_op; (apply ep_cb; trivial; exact rc_len (n := ds.length) rfl); (apply ep_cb; trivial; exact rc_len (n := ds.length) rfl); exact rv_eq_ii
      · intro _
        apply ep_op
        · refine ep_lc0 (tgt_name (by decide)) (eip_range1 (eps_cons (ep_cb (eps_cons (ep_var rfl) eps_nil) (rc_len (n := ds.length) rfl)) eps_nil) (by omega) (by omega)) (by rw [rangeP_len, Int.toNat_natCast]; omega) ?_
          intro i q hq
          rw [Int.toNat_natCast] at hq
          obtain ⟨hi, rfl⟩ := rangeP_at hq
          rw [Int.zero_add]
          apply gv_name
          have hx : ds[i]? = some (ds[i]'hi) := List.getElem?_eq_getElem _
          exact eb_not (eb_B (ca_law_is (eps_cons (ep_op (ep_var rfl) (ep_var rfl) (rv_ixL (atI_nat hx))) (eps_cons (ep_op (ep_var rfl) (ep_var rfl) (rv_ixL (atI_nat hx))) eps_nil)) rfl (okqs_at ho hx)))
        · trivial
        · exact rv_eq_d (n := 4) rfl rfl (by decide)
    · apply fz_is
      rw [decide_eq_true (rfl : ((ds.length : Nat) : Int) = ((ds.length : Nat) : Int))]
      rfl
  | scr ds => cases hp
  | ins C ks ds => cases hp
  | dct ks ds => cases hp
  | dcT ks ds => cases hp
theorem pl_law_is0 (sp : Sp) (p : P) (hp : okq 0 p = true) : SV K 0 (t__law_is K (S_law_whole K) sp) (startE 3 [.v p, .v p]) [] (DR (· = .bl true)) := by
  unfold t__law_is
  cases p with
  | non => apply sv_seq; apply sv_ifT; trivial; rfl; apply sv_retP; trivial; exact fz_is rfl
  | bl b =>
    apply sv_seq; apply sv_ifT; (apply eb_or; trivial; intro _; trivial); rfl; apply sv_retP
    · apply ep_ifF; trivial; rfl; apply ep_andV; trivial; intro _; apply ep_op; trivial; trivial; exact rv_eq_bb
    · apply fz_is; cases b <;> rfl
  | int i =>
    apply sv_seq; apply sv_ifF; trivial; rfl; apply sv_next; apply sv_seq; apply sv_ifT; trivial; rfl; apply sv_retP
    · apply ep_andV; (apply ca_law_whole; trivial; rfl); intro _; trivial
    · apply fz_is
      show P.bl (true && decide (i - i = 0)) = .bl true
      rw [Int.sub_self]
      rfl
  | str s =>
    have hs : s.cps.size < 1000 := by simpa [okq] using hp
    have hs2 : s.length = s.cps.size := rfl
    have hs3 : s.length ≤ sizeLine := by rw [hs2]; exact Nat.le_trans (Nat.le_of_lt hs) (by decide)
    have hlp : lenP (.str s) = some s.length := if_pos hs3
    apply sv_seq; apply sv_ifF; trivial; rfl; apply sv_next; apply sv_seq; apply sv_ifF; trivial; rfl; apply sv_next; apply sv_seq; apply sv_ifT; trivial; rfl; apply sv_retP
    · apply ep_andV; trivial; intro _; apply ep_andV
      · apply ep_op; (apply ep_cb; trivial; exact rc_len (n := s.length) hlp); (apply ep_cb; trivial; exact rc_len (n := s.length) hlp); exact rv_eq_ii
      · intro _
        apply ep_op
        · refine ep_lc0 (tgt_name (by decide)) (eip_range1 (eps_cons (ep_cb (eps_cons (ep_var rfl) eps_nil) (rc_len (n := s.length) hlp)) eps_nil) (by omega) (by omega)) (by rw [rangeP_len, Int.toNat_natCast]; omega) ?_
          intro i q hq
          rw [Int.toNat_natCast] at hq
          obtain ⟨hi, rfl⟩ := rangeP_at hq
          rw [Int.zero_add]
          apply gv_name
          have hx : s.cps.toList[i]? = some (s.cps.toList[i]'(by simpa [hs2] using hi)) := List.getElem?_eq_getElem _
          refine eb_is (eb_test (ep_op (ep_sl (ep_var rfl) (eo_some (ep_var rfl)) (eo_some (ep_op (ep_var rfl) ep_int rv_plus_i)) (slv_s hs3)) (ep_op (ep_var rfl) (ep_var rfl) (rv_ixS hs3 (atI_nat hx))) rv_ne_ss)) ?_
          rw [cut_one hx]
          simp
        · trivial
        · exact rv_eq_d (n := 4) rfl rfl (by decide)
    · apply fz_is
      rw [decide_eq_true (rfl : ((s.length : Nat) : Int) = ((s.length : Nat) : Int))]
      rfl
  | tup ds => cases hp
  | lst ds => cases hp
  | scr ds => cases hp
  | ins C ks ds => cases hp
  | dct ks ds => cases hp
  | dcT ks ds => cases hp
end
end R78
set_option maxRecDepth 100000
set_option maxHeartbeats 4000000
namespace R78
open PySem PySem.Spec PyProof.Rows L2 Z
/-- facts about the classes -/
abbrev cA (K : PySem.W.Frag) (v : Bool) : Addr := He.ga K (if v = true then "Values" else "Clock")
structure KfC (K : PySem.W.Frag) (C : Addr) : Prop where
  cl : Cls K C
  na1 : NoAttr K C "main"
  na2 : NoAttr K C "bonus"
  na3 : NoAttr K C "periods"
  na4 : NoAttr K C "length"
structure Kf (K : PySem.W.Frag) : Prop where
  ci : ClsI K (He.ga K "Clock")
  k1 : KfC K (He.ga K "Clock")
  k2 : KfC K (He.ga K "Values")
  ki : PySem.W.kitOne K (.ref (He.ga K "Clock")) (.ref (He.ga K "Clock")) = some true
theorem Kf.c {K : PySem.W.Frag} (kf : Kf K) (v : Bool) : KfC K (cA K v) := by
  cases v
  · exact kf.k1
  · exact kf.k2
/-- a clock: main time, bonus, periods, length -/
structure Ck where
  m : Int
  b : Int
  p : Int
  l : Int
abbrev flds : List Str := ["main", "bonus", "periods", "length"]
abbrev iP4 (c : Ck) : List P := [.int c.m, .int c.b, .int c.p, .int c.l]
abbrev oP (c : Ck) : P := .tup (iP4 c)
abbrev cV (K : PySem.W.Frag) (v : Bool) (c : Ck) : P := .ins (cA K v) flds (iP4 c)
abbrev cP (K : PySem.W.Frag) (c : Ck) : P := cV K false c
structure wfK (c : Ck) : Prop where
  m0 : 0 ≤ c.m
  b0 : 0 ≤ c.b
  b1 : c.b ≤ 10000
  p0 : 0 ≤ c.p
  p1 : c.p ≤ 100
  pb : 0 < c.p → c.b = 0
  l0 : 0 < c.p → 1 ≤ c.l
  l1 : c.l ≤ 10000
  lp : c.p = 0 → c.l = 0
structure wfC (c : Ck) : Prop extends wfK c where
  m1 : c.m ≤ 100000
abbrev St2 := Int × Int
abbrev sP (s : St2) : P := .tup [.int s.1, .int s.2]
def soP : Option St2 → P
  | none => .non
  | some s => sP s
structure wfS (c : Ck) (s : St2) : Prop where
  s0 : 0 ≤ s.1
  sp : c.p = 0 → s.2 = 0
  sq : 0 < c.p → 1 ≤ s.2
  sr : s.2 ≤ c.p
def btw (l m : Int) : P → Bool
  | .int i => decide (l ≤ i) && decide (i ≤ m)
  | _ => false
theorem btw_yes {l m i : Int} (h : l ≤ i ∧ i ≤ m) : btw l m (.int i) = true := by
  simp [btw, h.1, h.2]
section
variable {K : PySem.W.Frag} {Γ : Z.Env} {M : Mem} {E : XK} {t : TA} {a b c d i j h k : Int} {r : Bool} {p q : P} {ps qs : List P} {te : TE} {w : Str} {o : Ck} {s : St2} {ns : List Int}
local macro_rules | `(tactic| get_elem_tactic_trivial) => `(tactic| first
  | exact rv_plus_i | exact rv_ii | exact rv_ib | exact rv_eq_ii | exact rv_ne_ii | exact rv_eq_ss | exact rv_ne_ss | exact rv_eq_bb | exact rv_ne_bb | exact rv_ixT rfl | exact rv_ixL rfl
  | exact rv_plus_t (Nat.le_of_ble_eq_true rfl) | exact rv_plus_l (Nat.le_of_ble_eq_true rfl) | exact rv_plus_s (Nat.le_of_ble_eq_true rfl) | exact rv_isB | exact rv_inL rfl rfl | exact rv_inT rfl rfl | exact rv_ic (by decide))
local macro_rules | `(tactic| decreasing_trivial) => `(tactic| first
  | exact rc_len rfl | exact rc_int | exact rc_intB | exact rc_abs | exact rc_tupleL | exact rc_tupleT | exact rc_list rfl | exact rc_max2 | exact rc_min2)
local macro_rules | `(tactic| trivial) => `(tactic| first
  | exact ep_int | exact ep_str | exact ep_bl | exact ep_non
  | exact ep_var rfl
  | (apply ep_op; trivial; trivial; get_elem_tactic_trivial)
  | (apply ep_cb; trivial; decreasing_trivial)
  | (apply ep_andF; trivial; rfl)
  | (apply ep_andV; trivial; intro _; trivial)
  | (apply ep_orT; trivial; rfl)
  | (apply ep_orV; trivial; intro _; trivial)
  | (apply ep_notV; trivial)
  | (apply ep_isN; trivial) | (apply ep_notN; trivial)
  | (apply ep_un; trivial; exact ru_i)
  | (apply ep_tup; trivial; exact Nat.le_of_ble_eq_true rfl) | (apply ep_lst; trivial; exact Nat.le_of_ble_eq_true rfl)
  | (apply ep_chain; trivial; trivial; get_elem_tactic_trivial; intro _; trivial; intro _; get_elem_tactic_trivial)
  | exact eps_nil | (apply eps_cons; trivial; trivial) | (apply eps_star; trivial; rfl; trivial)
  | (apply ef_ep; trivial)
  | (apply eb_B; trivial) | (apply eb_test; trivial)
  | (apply eb_andF; trivial; rfl)
  | (apply eb_and; trivial; intro _; trivial)
  | (apply eb_orT; trivial; rfl)
  | (apply eb_or; trivial; intro _; trivial)
  | (apply eb_not; trivial)
  | (apply ep_ifT; trivial; rfl; trivial) | (apply ep_ifF; trivial; rfl; trivial)
  | (apply ep_ifI; trivial; intro _; trivial; intro _; trivial) | (apply ep_ifL; trivial; intro _; trivial; intro _; trivial)
  | (apply ep_isi_int; trivial; first | rfl | assumption) | (apply ep_isi_bool; trivial; first | rfl | assumption) | (apply ep_isi_tuple; trivial; first | rfl | assumption) | (apply ep_isi_str; trivial; first | rfl | assumption)
  | (apply ep_isi_list; trivial; first | rfl | assumption) | (apply ep_isi_lt; trivial; first | rfl | assumption))
local macro_rules | `(tactic| trivial) => `(tactic| (apply ep_ixC rfl rfl; rfl))

abbrev Sis_integer (K : PySem.W.Frag) : Sp := PF K (fun p : P => [p]) (fun p => isInsP p = none) (fun p r => r = .bl (pI p && !pB p))
theorem pl_is_integer (p : P) (hp : isInsP p = none) : SV K 0 (t_is_integer K) (startE 1 [.v p]) [] (DR (· = .bl (pI p && !pB p))) := by
  unfold t_is_integer
  apply sv_retP; trivial; exact fz_is rfl
theorem ca_is_integer (hh : EPs K t Γ M [p]) (hn : isInsP p = none) : Z.EP K (tCall (Sis_integer K) [] E t) Γ M (.bl (pI p && !pB p)) := ep_call hh p rfl hn (fun _ h => h)
local macro_rules | `(tactic| trivial) => `(tactic| (apply ca_is_integer; trivial; first | rfl | assumption))
abbrev Sis_between (K : PySem.W.Frag) : Sp := PF K (fun x : P × Int × Int => [x.1, .int x.2.1, .int x.2.2]) (fun x => isInsP x.1 = none) (fun x r => r = .bl (btw x.2.1 x.2.2 x.1))
theorem pl_is_between (p : P) (l m : Int) (hp : isInsP p = none) : SV K 0 (t_is_between K (Sis_integer K)) (startE 3 [.v p, .v (.int l), .v (.int m)]) [] (DR (· = .bl (btw l m p))) := by
  unfold t_is_between
  cases p <;> first | (cases hp; done) | (apply sv_retP; trivial; exact fz_is rfl)
theorem ca_is_between (hh : EPs K t Γ M [p, .int i, .int j]) (hn : isInsP p = none) : Z.EP K (tCall (Sis_between K) [] E t) Γ M (.bl (btw i j p)) := ep_call hh (p, i, j) rfl hn (fun _ h => h)
local macro_rules | `(tactic| trivial) => `(tactic| (apply ca_is_between; trivial; first | rfl | assumption))
abbrev Sis_list (K : PySem.W.Frag) : Sp := PF K (fun p : P => [p]) (fun p => isInsP p = none) (fun p r => r = .bl (pL p || pT p))
theorem pl_is_list (p : P) (hp : isInsP p = none) : SV K 0 (t_is_list K) (startE 1 [.v p]) [] (DR (· = .bl (pL p || pT p))) := by
  unfold t_is_list
  apply sv_retP; trivial; exact fz_is rfl
theorem ca_is_list (hh : EPs K t Γ M [p]) (hn : isInsP p = none) : Z.EP K (tCall (Sis_list K) [] E t) Γ M (.bl (pL p || pT p)) := ep_call hh p rfl hn (fun _ h => h)
local macro_rules | `(tactic| trivial) => `(tactic| (apply ca_is_list; trivial; first | rfl | assumption))
abbrev Sare_between (K : PySem.W.Frag) : Sp := PF K (fun x : Bool × List Int × Int × Int => [sqP x.1 (x.2.1.map .int), .int x.2.2.1, .int x.2.2.2]) (fun x => x.2.1.length ≤ 99999 ∧ ∀ n ∈ x.2.1, x.2.2.1 ≤ n ∧ n ≤ x.2.2.2) (fun x r => r = .bl true)
theorem pl_are_between (r : Bool) (ns : List Int) (l m : Int) (hl : ns.length ≤ 99999) (hn : ∀ n ∈ ns, l ≤ n ∧ n ≤ m) : SV K 0 (t_are_between K (Sis_between K)) (startE 4 [.v (sqP r (ns.map .int)), .v (.int l), .v (.int m)]) [] (DR (· = .bl true)) := by
  unfold t_are_between
  apply sv_retP (p := .bl true)
  · refine ep_cast (p := .bl ((ns.map fun n => btw l m (.int n)).all id)) ?_ ?_
    · refine ep_cb (ps := [.lst ((ns.map fun n => btw l m (.int n)).map .bl)]) (eps_cons (ep_is (ep_lcy (tgt_name (by decide)) (items := ns.map P.int) (v := fun p => .bl (btw l m p)) (eip_seq (ep_var rfl) sq_items) (by rw [List.length_map]; exact hl) ?_) ?_) eps_nil) rc_all
      · intro i p hp
        obtain ⟨n, _, rfl⟩ := List.mem_map.mp (List.mem_of_getElem? hp)
        apply gv_name; trivial
      · rw [List.map_map, List.map_map]; rfl
    · congr 1
      rw [List.all_eq_true]
      intro x hx
      obtain ⟨n, hn', rfl⟩ := List.mem_map.mp hx
      exact btw_yes (hn n hn')
  · exact fz_is rfl
theorem ca_are_between {r : Bool} (hh : EPs K t Γ M [sqP r (ns.map .int), .int i, .int j]) (hl : ns.length ≤ 99999) (hn : ∀ n ∈ ns, i ≤ n ∧ n ≤ j) : Z.EP K (tCall (Sare_between K) [] E t) Γ M (.bl true) := ep_call hh (r, ns, i, j) rfl ⟨hl, hn⟩ (fun _ h => h)
abbrev Scheck_periods (K : PySem.W.Frag) : Sp := PF K (fun o : Ck => [.int o.b, .int o.p, .int o.l]) wfK (fun _ r => r = .non)
theorem pl_check_periods (o : Ck) (w : wfK o) : SV K 0 (t_check_periods K (Sis_between K)) (startE 3 [.v (.int o.b), .v (.int o.p), .v (.int o.l)]) [] (DR (· = .non)) := by
  unfold t_check_periods
  obtain ⟨m0, b0, b1, p0, p1, pb, l0, l1, lp⟩ := w
  have e1 := btw_yes (l := 0) (m := 10000) ⟨b0, b1⟩
  have e2 := btw_yes (l := 0) (m := 100) ⟨p0, p1⟩
  apply sv_seq; apply sv_ifF; trivial; (rw [e1]; rfl); apply sv_next
  apply sv_seq; apply sv_ifF; trivial
  · rw [e2]
    by_cases h : 0 < o.b
    · have : ¬ 0 < o.p := fun z => by have := pb z; omega
      simp [h, this]
    · simp [h]
  apply sv_next
  apply sv_ifF
  · apply eb_not; apply eb_B; apply ca_is_between (i := minL [o.p, 1]) (j := if decide (0 < o.p) = true then 10000 else 0)
    · apply eps_cons; trivial; apply eps_cons; (apply ep_cb; (apply eps_cons (p := .lst ([o.p, 1].map .int)); trivial; exact eps_nil); exact rc_minL (Nat.succ_pos _)); apply eps_cons; trivial; exact eps_nil
    · rfl
  · have e3 : minL [o.p, 1] = min o.p 1 := rfl
    rw [e3, btw_yes]
    · rfl
    · by_cases h : 0 < o.p
      · have h1 := l0 h
        rw [if_pos (decide_eq_true h)]
        omega
      · have h1 := lp (by omega)
        rw [if_neg (by simpa using h)]
        omega
  apply sv_next; rfl
theorem ca_check_periods (hh : EPs K t Γ M [.int o.b, .int o.p, .int o.l]) (w : wfK o) : Z.EP K (tCall (Scheck_periods K) [] E t) Γ M .non := ep_call hh o rfl w (fun _ h => h)
abbrev SClock__init__ (K : PySem.W.Frag) : Sp := MF K (He.ga K "Clock") iP4 wfC flds iP4
theorem pl_Clock__init__ (kf : Kf K) (o : Ck) (w : wfC o) : SV K 1 (t_Clock__init__ K (Sis_between K) (Scheck_periods K)) (startE 5 [.c 0, .v (.int o.m), .v (.int o.b), .v (.int o.p), .v (.int o.l)]) [.o (He.ga K "Clock") [] []]
    { nx := fun _ M => ∃ M', M = .o (He.ga K "Clock") flds ((iP4 o).map .v) :: M', rt := fun _ _ => False } := by
  unfold t_Clock__init__
  have e1 := btw_yes (l := 0) (m := 100000) ⟨w.m0, w.m1⟩
  apply sv_seq; apply sv_ifF; trivial; (rw [e1]; rfl); apply sv_next
  apply sv_seq; apply sv_drop; apply ev_ep; (apply ca_check_periods (o := o); trivial; exact w.towfK)
  apply sv_seq; apply sv_fldN; apply ev_ep; trivial; apply ev_var rfl; refine ⟨0, _, _, _, rfl, rfl, kf.k1.cl, kf.k1.na1, by decide, by decide, ?_⟩
  apply sv_seq; apply sv_fldN; apply ev_ep; trivial; apply ev_var rfl; refine ⟨0, _, _, _, rfl, rfl, kf.k1.cl, kf.k1.na2, by decide, by decide, ?_⟩
  apply sv_seq; apply sv_fldN; apply ev_ep; trivial; apply ev_var rfl; refine ⟨0, _, _, _, rfl, rfl, kf.k1.cl, kf.k1.na3, by decide, by decide, ?_⟩
  apply sv_fldN; apply ev_ep; trivial; apply ev_var rfl; refine ⟨0, _, _, _, rfl, rfl, kf.k1.cl, kf.k1.na4, by decide, by decide, ?_⟩
  exact ⟨_, rfl⟩
theorem ca_Clock (hh : EPs K t Γ M [.int o.m, .int o.b, .int o.p, .int o.l]) (w : wfC o) : Z.EP K (tMake (He.ga K "Clock") (SClock__init__ K) [] E t) Γ M (cP K o) := ep_make hh o rfl w
abbrev Scheck_clock (K : PySem.W.Frag) : Sp := PF K (fun o : Ck => [cP K o]) (fun _ => True) (fun _ r => r = .non)
theorem pl_check_clock (kf : Kf K) (o : Ck) : SV K 0 (t_check_clock K) (startE 1 [.v (cP K o)]) [] (DR (· = .non)) := by
  unfold t_check_clock
  apply sv_ifF
  · apply eb_not (b := true); apply eb_B; apply ep_isi (p := cP K o); (apply ef_ep; exact ep_var rfl); exact .own _; exact (fun C e => by cases e; exact kf.ci); exact kf.ki
  · rfl
  apply sv_next; rfl
theorem ca_check_clock (hh : EPs K t Γ M [cP K o]) : Z.EP K (tCall (Scheck_clock K) [] E t) Γ M .non := ep_call hh o rfl True.intro (fun _ h => h)
local macro_rules | `(tactic| trivial) => `(tactic| (apply ca_check_clock; trivial))
theorem fld1 {v : Bool} (kf : Kf K) (h : Z.EP K te Γ M (cV K v o)) : Z.EP K (tFld K te "main") Γ M (.int o.m) := ep_fld h (kf.c v).cl (kf.c v).na1 rfl
theorem fld2 {v : Bool} (kf : Kf K) (h : Z.EP K te Γ M (cV K v o)) : Z.EP K (tFld K te "bonus") Γ M (.int o.b) := ep_fld h (kf.c v).cl (kf.c v).na2 rfl
theorem fld3 {v : Bool} (kf : Kf K) (h : Z.EP K te Γ M (cV K v o)) : Z.EP K (tFld K te "periods") Γ M (.int o.p) := ep_fld h (kf.c v).cl (kf.c v).na3 rfl
theorem fld4 {v : Bool} (kf : Kf K) (h : Z.EP K te Γ M (cV K v o)) : Z.EP K (tFld K te "length") Γ M (.int o.l) := ep_fld h (kf.c v).cl (kf.c v).na4 rfl
abbrev useOk (ns : List Int) : Prop := ns.length ≤ 400 ∧ ∀ n ∈ ns, 0 ≤ n ∧ n ≤ 1000000000000
abbrev Scheck_uses (K : PySem.W.Frag) : Sp := PF K (fun x : Bool × List Int => [sqP x.1 (x.2.map .int)]) (fun x => useOk x.2) (fun _ r => r = .non)
theorem pl_check_uses (r : Bool) (ns : List Int) (h : useOk ns) : SV K 0 (t_check_uses K (Sis_list K) (Sare_between K)) (startE 1 [.v (sqP r (ns.map .int))]) [] (DR (· = .non)) := by
  unfold t_check_uses
  obtain ⟨h1, h2⟩ := h
  apply sv_ifF
  · apply eb_or (b := false) (c := false)
    · apply eb_not (b := true); apply eb_B
      exact ep_cast (ca_is_list (p := sqP r (ns.map .int)) (eps_cons (ep_var rfl) eps_nil) (by cases r <;> rfl)) (by cases r <;> rfl)
    · intro _; apply eb_or (b := false) (c := false)
      · refine eb_is (eb_test (ep_op (ep_cb (eps_cons (ep_var rfl) eps_nil) (rc_len (n := ns.length) (by cases r <;> simp [lenP]))) ep_int rv_ib)) (decide_eq_false (by omega))
      · intro _; apply eb_not (b := true); apply eb_B; exact ca_are_between (eps_cons (ep_var rfl) (eps_cons ep_int (eps_cons ep_int eps_nil))) (by omega) h2
  · rfl
  apply sv_next; rfl
theorem ca_check_uses {r : Bool} (hh : EPs K t Γ M [sqP r (ns.map .int)]) (h : useOk ns) : Z.EP K (tCall (Scheck_uses K) [] E t) Γ M .non := ep_call hh (r, ns) rfl h (fun _ h => h)
abbrev Sfirst_state (K : PySem.W.Frag) : Sp := PF K (fun x : Bool × Ck => [cV K x.1 x.2]) (fun _ => True) (fun x r => r = sP (x.2.m, x.2.p))
theorem pl_first_state (kf : Kf K) (v : Bool) (o : Ck) : SV K 0 (t_first_state K) (startE 1 [.v (cV K v o)]) [] (DR (· = sP (o.m, o.p))) := by
  unfold t_first_state
  apply sv_retP
  · apply ep_tup
    · apply eps_cons; exact fld1 kf (ep_var rfl); apply eps_cons; exact fld3 kf (ep_var rfl); exact eps_nil
    · exact Nat.le_of_ble_eq_true rfl
  · exact fz_is rfl
theorem ca_first_state {v : Bool} (hh : EPs K t Γ M [cV K v o]) : Z.EP K (tCall (Sfirst_state K) [] E t) Γ M (sP (o.m, o.p)) := ep_call hh (v, o) rfl True.intro (fun _ h => h)
abbrev Scheck_clocks (K : PySem.W.Frag) : Sp := PF K (fun x : Ck × Ck => [cP K x.1, cP K x.2]) (fun _ => True) (fun _ r => r = .non)
theorem pl_check_clocks (kf : Kf K) (o o' : Ck) : SV K 0 (t_check_clocks K) (startE 2 [.v (cP K o), .v (cP K o')]) [] (DR (· = .non)) := by
  unfold t_check_clocks
  apply sv_seq; apply sv_ifF
  · apply eb_not (b := true); apply eb_B; apply ep_isi (p := cP K o); (apply ef_ep; exact ep_var rfl); exact .own _; exact (fun C e => by cases e; exact kf.ci); exact kf.ki
  · rfl
  apply sv_next
  apply sv_ifF
  · apply eb_not (b := true); apply eb_B; apply ep_isi (p := cP K o'); (apply ef_ep; exact ep_var rfl); exact .own _; exact (fun C e => by cases e; exact kf.ci); exact kf.ki
  · rfl
  apply sv_next; rfl
theorem ca_check_clocks {o' : Ck} (hh : EPs K t Γ M [cP K o, cP K o']) : Z.EP K (tCall (Scheck_clocks K) [] E t) Γ M .non := ep_call hh (o, o') rfl True.intro (fun _ h => h)
abbrev SValues__init__ (K : PySem.W.Frag) : Sp := MF K (He.ga K "Values") iP4 (fun _ => True) flds iP4
theorem pl_Values__init__ (kf : Kf K) (o : Ck) : SV K 1 (t_Values__init__ K) (startE 5 [.c 0, .v (.int o.m), .v (.int o.b), .v (.int o.p), .v (.int o.l)]) [.o (He.ga K "Values") [] []]
    { nx := fun _ M => ∃ M', M = .o (He.ga K "Values") flds ((iP4 o).map .v) :: M', rt := fun _ _ => False } := by
  unfold t_Values__init__
  apply sv_seq; apply sv_fldN; apply ev_ep; trivial; apply ev_var rfl; refine ⟨0, _, _, _, rfl, rfl, kf.k2.cl, kf.k2.na1, by decide, by decide, ?_⟩
  apply sv_seq; apply sv_fldN; apply ev_ep; trivial; apply ev_var rfl; refine ⟨0, _, _, _, rfl, rfl, kf.k2.cl, kf.k2.na2, by decide, by decide, ?_⟩
  apply sv_seq; apply sv_fldN; apply ev_ep; trivial; apply ev_var rfl; refine ⟨0, _, _, _, rfl, rfl, kf.k2.cl, kf.k2.na3, by decide, by decide, ?_⟩
  apply sv_fldN; apply ev_ep; trivial; apply ev_var rfl; refine ⟨0, _, _, _, rfl, rfl, kf.k2.cl, kf.k2.na4, by decide, by decide, ?_⟩
  exact ⟨_, rfl⟩
theorem ca_Values (hh : EPs K t Γ M [.int o.m, .int o.b, .int o.p, .int o.l]) : Z.EP K (tMake (He.ga K "Values") (SValues__init__ K) [] E t) Γ M (cV K true o) := ep_make hh o rfl True.intro
abbrev Sother_color (K : PySem.W.Frag) : Sp := PF K (fun i : Int => [.int i]) (fun _ => True) (fun i r => r = .int (3 - i))
theorem pl_other_color (i : Int) : SV K 0 (t_other_color K) (startE 1 [.v (.int i)]) [] (DR (· = .int (3 - i))) := by
  unfold t_other_color
  apply sv_retP; trivial; exact fz_is rfl
theorem ca_other_color (hh : EPs K t Γ M [.int i]) : Z.EP K (tCall (Sother_color K) [] E t) Γ M (.int (3 - i)) := ep_call hh i rfl True.intro (fun _ h => h)
abbrev Slost_with (K : PySem.W.Frag) : Sp := PF K (fun x : Int × Int => [.int x.1, .int x.2]) (fun x => 1 ≤ x.1 ∧ x.1 ≤ 10000) (fun x r => r = .int ((x.2 - 1) / x.1))
theorem pl_lost_with (l u : Int) (h : 1 ≤ l ∧ l ≤ 10000) : SV K 0 (t_lost_with K) (startE 2 [.v (.int l), .v (.int u)]) [] (DR (· = .int ((u - 1) / l))) := by
  unfold t_lost_with
  apply sv_retP
  · apply ep_op; trivial; trivial; exact rv_ic ⟨by omega, by omega⟩
  · exact fz_is rfl
theorem ca_lost_with (hh : EPs K t Γ M [.int i, .int j]) (h : 1 ≤ i ∧ i ≤ 10000) : Z.EP K (tCall (Slost_with K) [] E t) Γ M (.int ((j - 1) / i)) := ep_call hh (i, j) rfl h (fun _ h => h)
end
end R78
set_option maxRecDepth 100000
set_option maxHeartbeats 4000000
namespace R78
open PySem PySem.Spec PyProof.Rows L2 Z
def nxt (o : Ck) (s : St2) (u : Int) : Option St2 := if u ≤ s.1 then some (s.1 - u + o.b, s.2) else if s.2 = 0 then none else if (u - s.1 - 1) / o.l < s.2 then some (0, s.2 - (u - s.1 - 1) / o.l) else none
theorem nxt_wf {o : Ck} {s s' : St2} {u : Int} (w : wfK o) (ws : wfS o s) (hu : 0 ≤ u) (h : nxt o s u = some s') : wfS o s' := by
  obtain ⟨s0, sp, sq, sr⟩ := ws
  unfold nxt at h
  split at h
  · cases h
    exact ⟨by have := w.b0; show 0 ≤ s.1 - u + o.b; omega, sp, sq, sr⟩
  · split at h
    · cases h
    · split at h
      · cases h
        rename_i h1 h2 h3
        have hp : 0 < o.p := by
          by_cases h : 0 < o.p
          · exact h
          · exact absurd (sp (by have := w.p0; omega)) h2
        have hl := w.l0 hp
        have hd : 0 ≤ (u - s.1 - 1) / o.l := Int.ediv_nonneg (by omega) (by omega)
        exact ⟨Int.le_refl 0, fun z => by omega, fun _ => by show 1 ≤ s.2 - (u - s.1 - 1) / o.l; omega, by show s.2 - (u - s.1 - 1) / o.l ≤ o.p; omega⟩
      · cases h
theorem start_wf {o : Ck} (w : wfK o) : wfS o (o.m, o.p) := ⟨w.m0, fun h => h, fun h => h, Int.le_refl _⟩
def sts (o : Ck) : St2 → List Int → List St2
  | s, [] => [s]
  | s, u :: us => s :: (match nxt o s u with
    | none => []
    | some s' => sts o s' us)
theorem sts_cons {o : Ck} {s : St2} {u : Int} {us : List Int} : sts o s (u :: us) = s :: (match nxt o s u with
    | none => []
    | some s' => sts o s' us) := rfl
theorem sts_len (o : Ck) : ∀ (us : List Int) (s : St2), (sts o s us).length ≤ us.length + 1 ∧ 0 < (sts o s us).length
  | [], s => ⟨Nat.le_refl _, Nat.succ_pos _⟩
  | u :: us, s => by
    unfold sts
    cases e : nxt o s u with
    | none => simp
    | some s' =>
      have h := sts_len o us s'
      simp only [List.length_cons]
      omega
section
variable {K : PySem.W.Frag} {Γ : Z.Env} {M : Mem} {E : XK} {t : TA} {a b c d i j h k u : Int} {r : Bool} {p q : P} {ps qs : List P} {te : TE} {w : Str} {o : Ck} {s : St2} {ns : List Int} {rs : List (Int × Int)} {Φ : Mem → D → Prop}
local macro_rules | `(tactic| get_elem_tactic_trivial) => `(tactic| first
  | exact rv_plus_i | exact rv_ii | exact rv_ib | exact rv_eq_ii | exact rv_ne_ii | exact rv_eq_ss | exact rv_ne_ss | exact rv_eq_bb | exact rv_ne_bb | exact rv_ixT rfl | exact rv_ixL rfl
  | exact rv_plus_t (Nat.le_of_ble_eq_true rfl) | exact rv_plus_l (Nat.le_of_ble_eq_true rfl) | exact rv_plus_s (Nat.le_of_ble_eq_true rfl) | exact rv_isB | exact rv_inL rfl rfl | exact rv_inT rfl rfl | exact rv_ic (by decide))
local macro_rules | `(tactic| decreasing_trivial) => `(tactic| first
  | exact rc_len rfl | exact rc_int | exact rc_intB | exact rc_abs | exact rc_tupleL | exact rc_tupleT | exact rc_list rfl | exact rc_max2 | exact rc_min2)
local macro_rules | `(tactic| trivial) => `(tactic| first
  | exact ep_int | exact ep_str | exact ep_bl | exact ep_non
  | exact ep_var rfl
  | (apply ep_op; trivial; trivial; get_elem_tactic_trivial)
  | (apply ep_cb; trivial; decreasing_trivial)
  | (apply ep_andF; trivial; rfl)
  | (apply ep_andV; trivial; intro _; trivial)
  | (apply ep_orT; trivial; rfl)
  | (apply ep_orV; trivial; intro _; trivial)
  | (apply ep_notV; trivial)
  | (apply ep_isN; trivial) | (apply ep_notN; trivial)
  | (apply ep_un; trivial; exact ru_i)
  | (apply ep_tup; trivial; exact Nat.le_of_ble_eq_true rfl) | (apply ep_lst; trivial; exact Nat.le_of_ble_eq_true rfl)
  | (apply ep_chain; trivial; trivial; get_elem_tactic_trivial; intro _; trivial; intro _; get_elem_tactic_trivial)
  | exact eps_nil | (apply eps_cons; trivial; trivial) | (apply eps_star; trivial; rfl; trivial)
  | (apply ef_ep; trivial)
  | (apply eb_B; trivial) | (apply eb_test; trivial)
  | (apply eb_andF; trivial; rfl)
  | (apply eb_and; trivial; intro _; trivial)
  | (apply eb_orT; trivial; rfl)
  | (apply eb_or; trivial; intro _; trivial)
  | (apply eb_not; trivial)
  | (apply ep_ifT; trivial; rfl; trivial) | (apply ep_ifF; trivial; rfl; trivial)
  | (apply ep_ifI; trivial; intro _; trivial; intro _; trivial) | (apply ep_ifL; trivial; intro _; trivial; intro _; trivial)
  | (apply ep_isi_int; trivial; first | rfl | assumption) | (apply ep_isi_bool; trivial; first | rfl | assumption) | (apply ep_isi_tuple; trivial; first | rfl | assumption) | (apply ep_isi_str; trivial; first | rfl | assumption)
  | (apply ep_isi_list; trivial; first | rfl | assumption) | (apply ep_isi_lt; trivial; first | rfl | assumption))
local macro_rules | `(tactic| trivial) => `(tactic| (apply ep_ixC rfl rfl; rfl))
local macro_rules | `(tactic| trivial) => `(tactic| (apply ca_is_integer; trivial; first | rfl | assumption))
local macro_rules | `(tactic| trivial) => `(tactic| (apply ca_is_between; trivial; first | rfl | assumption))
local macro_rules | `(tactic| trivial) => `(tactic| (apply ca_is_list; trivial; first | rfl | assumption))
local macro_rules | `(tactic| trivial) => `(tactic| (apply ca_check_clock; trivial))
abbrev Snext_state (K : PySem.W.Frag) : Sp := PF K (fun x : Bool × Ck × St2 × Int => [cV K x.1 x.2.1, sP x.2.2.1, .int x.2.2.2]) (fun x => wfK x.2.1 ∧ wfS x.2.1 x.2.2.1) (fun x r => r = soP (nxt x.2.1 x.2.2.1 x.2.2.2))
theorem pl_next_state (kf : Kf K) (v : Bool) (o : Ck) (s : St2) (u : Int) (w : wfK o) (ws : wfS o s) : SV K 0 (t_next_state K (Slost_with K)) (startE 6 [.v (cV K v o), .v (sP s), .v (.int u)]) [] (DR (· = soP (nxt o s u))) := by
  unfold t_next_state
  apply sv_seq; apply sv_tup; trivial; apply gv_tup rfl; apply gvs_cons; apply gv_name; apply gvs_cons; apply gv_name; apply gvs_nil
  apply sv_seq; apply sv_ifB; trivial
  · intro h
    have h := of_decide_eq_true h
    apply sv_retP
    · apply ep_tup
      · apply eps_cons; (apply ep_op; trivial; exact fld2 kf (ep_var rfl); exact rv_plus_i); apply eps_cons; trivial; exact eps_nil
      · exact Nat.le_of_ble_eq_true rfl
    · apply fz_is; unfold nxt; rw [if_pos h]; rfl
  intro h
  have h := of_decide_eq_false h
  apply sv_next
  apply sv_seq; apply sv_ifB; trivial
  · intro h2
    have h2 := of_decide_eq_true h2
    apply sv_retP; trivial; apply fz_is; unfold nxt; rw [if_neg h, if_pos h2]; rfl
  intro h2
  have h2 := of_decide_eq_false h2
  have hp : 0 < o.p := by
    by_cases h : 0 < o.p
    · exact h
    · exact absurd (ws.sp (by have := w.p0; omega)) h2
  have hl := w.l0 hp
  have hl1 := w.l1
  apply sv_next
  apply sv_seq; apply sv_set
  · apply ca_lost_with; (apply eps_cons; exact fld4 kf (ep_var rfl); trivial); omega
  apply sv_retP (p := if (u - s.1 - 1) / o.l < s.2 then sP (0, s.2 - (u - s.1 - 1) / o.l) else .non)
  · by_cases h3 : (u - s.1 - 1) / o.l < s.2
    · rw [if_pos h3]; apply ep_ifT; trivial; exact decide_eq_true h3; trivial
    · rw [if_neg h3]; apply ep_ifF; trivial; exact decide_eq_false h3; trivial
  · apply fz_is; unfold nxt; rw [if_neg h, if_neg h2]
    split <;> rfl
theorem ca_next_state {v : Bool} (hh : EPs K t Γ M [cV K v o, sP s, .int u]) (w : wfK o) (ws : wfS o s) : Z.EP K (tCall (Snext_state K) [] E t) Γ M (soP (nxt o s u)) := ep_call hh (v, o, s, u) rfl ⟨w, ws⟩ (fun _ h => h)
abbrev Rsts (x : Ck × List Int) (cs : List MC) (d : D) : Prop := cs = [.l ((sts x.1 (x.1.m, x.1.p) x.2).map fun s => .v (sP s))] ∧ d = .c 0
abbrev Sstates_in (K : PySem.W.Frag) : Sp := PC K (fun x : Bool × Ck × Bool × List Int => [cV K x.1 x.2.1, sqP x.2.2.1 (x.2.2.2.map .int)]) (fun x => wfK x.2.1 ∧ useOk x.2.2.2) (fun x => Rsts (x.2.1, x.2.2.2))
theorem pl_states_in (kf : Kf K) (v : Bool) (o : Ck) (r : Bool) (us : List Int) (w : wfK o) (hu : useOk us) : SV K 0 (t_states_in K (Sfirst_state K) (Snext_state K)) (startE 5 [.v (cV K v o), .v (sqP r (us.map .int))]) [] { nx := fun _ _ => False, rt := fun M d => Rsts (o, us) M d } := by
  unfold t_states_in
  apply sv_seq; apply sv_asg; apply ev_cell; apply en_lst; apply ea_ep
  · apply eps_cons; exact ca_first_state (eps_cons (ep_var rfl) eps_nil); exact eps_nil
  refine ⟨Nat.le_of_ble_eq_true rfl, ?_⟩
  apply sv_seq; apply sv_for; apply ei_ip; exact eip_seq (ep_var rfl) sq_items
  refine ⟨fun i Γ M => ∃ (acc : List St2) (s : St2), M = [.l ((acc ++ [s]).map fun s => .v (sP s))] ∧ wfS o s ∧ acc.length = i ∧ acc ++ sts o s (us.drop i) = sts o (o.m, o.p) us ∧ ∃ x3 x4, Γ = [some (.v (cV K v o)), some (.v (sqP r (us.map .int))), some (.c 0), x3, x4],
    ⟨[], _, rfl, start_wf w, rfl, by simp, _, _, rfl⟩, ?_, ?_⟩
  · rintro i p Γ1 M1 hp ⟨acc, s, rfl, ws, hl, hs, x3, x4, rfl⟩
    rw [List.getElem?_map] at hp
    obtain ⟨u, hui, rfl⟩ : ∃ u, us[i]? = some u ∧ p = .int u := by
      cases e : us[i]? with
      | none => rw [e] at hp; cases hp
      | some u => rw [e] at hp; cases hp; exact ⟨u, rfl, rfl⟩
    have hi : i < us.length := (List.getElem?_eq_some_iff.mp hui).1
    have hu0 := hu.2 u (List.mem_of_getElem? hui)
    have hdrop : us.drop i = u :: us.drop (i + 1) := by
      rw [List.drop_eq_getElem_cons hi]
      congr 1
      exact (List.getElem?_eq_some_iff.mp hui).2
    rw [hdrop] at hs
    apply gv_name
    apply sv_seq; apply sv_set (p := soP (nxt o s u))
    · apply ca_next_state (s := s)
      · apply eps_cons; trivial; apply eps_cons
        · refine ev_ixC (.inl rfl) (ev_var rfl ⟨0, rfl, ev_ep (ep_un ep_int ru_i) ⟨-1, _, .v (sP s), rfl, rfl, ?_, rfl, rfl⟩⟩)
          rw [List.map_append]
          exact atI_last
        · apply eps_cons; trivial; exact eps_nil
      · exact w
      · exact ws
    rw [sts_cons] at hs
    cases e : nxt o s u with
    | none =>
      rw [e] at hs
      apply sv_seq; apply sv_ifT; (apply eb_B; exact ep_isN (p := .non) (ef_ep (ep_var rfl))); rfl
      apply sv_ret; apply ev_var rfl
      refine ⟨?_, rfl⟩
      show [MC.l _] = [MC.l _]
      rw [← hs]
    | some s' =>
      rw [e] at hs
      apply sv_seq; apply sv_ifF; (apply eb_B; exact ep_isN (p := sP s') (ef_ep (ep_var rfl))); rfl
      apply sv_next
      apply sv_drop; apply ev_bm; apply ev_var rfl; refine ⟨0, _, rfl, rfl, ?_⟩
      apply ea_ep; apply eps_cons; exact ep_var (p := sP s') rfl; exact eps_nil
      refine ⟨_, _, _, rfl, mv_append (by rw [List.length_map, List.length_append, hl]; have := hu.1; simp; omega), ?_⟩
      refine ni_refl ⟨acc ++ [s], s', ?_, nxt_wf w ws hu0.1 e, by rw [List.length_append, hl]; rfl, by rw [List.append_assoc]; exact hs, _, _, rfl⟩
      show [MC.l (_ ++ [_])] = [MC.l _]
      rw [List.map_append, List.map_append, List.map_append]
      rfl
  · rintro Γ1 M1 ⟨acc, s, rfl, ws, hl, hs, x3, x4, rfl⟩
    rw [List.length_map, List.drop_length] at hs
    apply sv_ret; apply ev_var rfl
    refine ⟨?_, rfl⟩
    show [MC.l _] = [MC.l _]
    rw [← hs]
    rfl
theorem ca_statesD {v r : Bool} {us : List Int} (hh : EPs K t Γ M [cV K v o, sqP r (us.map .int)]) (w : wfK o) (hu : useOk us) : Z.EP K (tCall (Sstates_in K) [] E t) Γ M (.lst ((sts o (o.m, o.p) us).map sP)) := ev_callCP (ea_ep hh ⟨(v, o, r, us), rfl, ⟨w, hu⟩, fun cs d ⟨e1, e2⟩ => ⟨_, by rw [e1, e2]; exact .c (Nat.zero_le _) rfl (fzs_map _), rfl, rfl⟩⟩)
def ro (o : Ck) (us : List Int) : Option Int := if ((sts o (o.m, o.p) us).length : Int) - 1 < us.length then some ((sts o (o.m, o.p) us).length - 1) else none
abbrev Srun_out (K : PySem.W.Frag) : Sp := PF K (fun x : Ck × Bool × List Int => [cP K x.1, sqP x.2.1 (x.2.2.map .int)]) (fun x => wfK x.1 ∧ useOk x.2.2) (fun x r => r = oiP (ro x.1 x.2.2))
theorem len_sq {r : Bool} (hl : ns.length ≤ 99999) : lenP (sqP r (ns.map .int)) = some ns.length := by cases r <;> simp [lenP]
end
end R78
set_option maxRecDepth 100000
set_option maxHeartbeats 4000000
namespace R78
open PySem PySem.Spec PyProof.Rows L2 Z
/-- it does not run out -/
def en (o : Ck) : St2 → List Int → Prop
  | _, [] => True
  | s, u :: us => ∃ s', nxt o s u = some s' ∧ en o s' us
theorem en_len (o : Ck) : ∀ (us : List Int) (s : St2), en o s us ↔ (sts o s us).length = us.length + 1
  | [], s => ⟨fun _ => rfl, fun _ => True.intro⟩
  | u :: us, s => by
    rw [sts_cons, List.length_cons, List.length_cons]
    unfold en
    cases e : nxt o s u with
    | none => simp
    | some s' =>
      show (∃ t, some s' = some t ∧ en o t us) ↔ (sts o s' us).length + 1 = us.length + 1 + 1
      rw [Nat.add_right_cancel_iff, ← en_len o us s']
      exact ⟨fun ⟨t, h1, h2⟩ => by cases h1; exact h2, fun h => ⟨s', rfl, h⟩⟩
theorem ro_en {o : Ck} {us : List Int} (h : en o (o.m, o.p) us) : ro o us = none := by
  unfold ro
  rw [(en_len o us _).mp h, if_neg (by omega)]
theorem ro_not {o : Ck} {us : List Int} (h : ¬ en o (o.m, o.p) us) : ro o us = some (((sts o (o.m, o.p) us).length : Int) - 1) := by
  have h1 : (sts o (o.m, o.p) us).length ≠ us.length + 1 := fun z => h ((en_len o us _).mpr z)
  have h2 := (sts_len o us (o.m, o.p)).1
  unfold ro
  rw [if_pos (by omega)]
theorem div_mono {a b l : Int} (hl : 0 ≤ l) (h : a ≤ b) : a / l ≤ b / l := by
  by_cases h0 : l = 0
  · rw [h0, Int.ediv_zero, Int.ediv_zero]; exact Int.le_refl _
  · exact Int.ediv_le_ediv (by omega) h
theorem nxt_mono {o o' : Ck} {s t s' : St2} {u : Int} (hl0 : 0 ≤ o.l) (hl : o.l = o'.l) (hb0 : 0 ≤ o'.b) (hb : o.b ≤ o'.b) (h1 : s.1 ≤ t.1) (h2 : s.2 ≤ t.2) (h : nxt o s u = some s') : ∃ t', nxt o' t u = some t' ∧ s'.1 ≤ t'.1 ∧ s'.2 ≤ t'.2 := by
  unfold nxt at h ⊢
  by_cases c1 : u ≤ s.1
  · rw [if_pos c1] at h
    cases h
    rw [if_pos (by omega)]
    exact ⟨_, rfl, by show s.1 - u + o.b ≤ t.1 - u + o'.b; omega, h2⟩
  · rw [if_neg c1] at h
    by_cases c2 : s.2 = 0
    · rw [if_pos c2] at h; cases h
    · rw [if_neg c2] at h
      have hd : 0 ≤ (u - s.1 - 1) / o.l := by
        by_cases h0 : o.l = 0
        · rw [h0, Int.ediv_zero]; exact Int.le_refl _
        · exact Int.ediv_nonneg (by omega) hl0
      by_cases c3 : (u - s.1 - 1) / o.l < s.2
      · rw [if_pos c3] at h
        cases h
        by_cases c4 : u ≤ t.1
        · rw [if_pos c4]
          exact ⟨_, rfl, by show 0 ≤ t.1 - u + o'.b; omega, by show s.2 - (u - s.1 - 1) / o.l ≤ t.2; omega⟩
        · rw [if_neg c4, if_neg (by omega)]
          have hm : (u - t.1 - 1) / o'.l ≤ (u - s.1 - 1) / o.l := by
            rw [← hl]; exact div_mono hl0 (by omega)
          rw [if_pos (by omega)]
          exact ⟨_, rfl, Int.le_refl 0, by show s.2 - (u - s.1 - 1) / o.l ≤ t.2 - (u - t.1 - 1) / o'.l; omega⟩
      · rw [if_neg c3] at h; cases h
theorem en_mono {o o' : Ck} (hl0 : 0 ≤ o.l) (hl : o.l = o'.l) (hb0 : 0 ≤ o'.b) (hb : o.b ≤ o'.b) : ∀ {us : List Int} {s t : St2}, s.1 ≤ t.1 → s.2 ≤ t.2 → en o s us → en o' t us
  | [], _, _, _, _, _ => True.intro
  | u :: us, s, t, h1, h2, ⟨s', e, h⟩ => by
    obtain ⟨t', e', h3, h4⟩ := nxt_mono hl0 hl hb0 hb h1 h2 e
    exact ⟨t', e', en_mono hl0 hl hb0 hb h3 h4 h⟩
theorem en_pre {o : Ck} : ∀ {us vs : List Int} {s : St2}, en o s (us ++ vs) → en o s us
  | [], _, _, _ => True.intro
  | u :: us, vs, s, ⟨s', e, h⟩ => ⟨s', e, en_pre h⟩
theorem sum_nn : ∀ {us : List Int}, (∀ u ∈ us, 0 ≤ u) → 0 ≤ us.sum
  | [], _ => Int.le_refl 0
  | u :: us, h => by
    have h1 := h u List.mem_cons_self
    have h2 := sum_nn (us := us) fun x hx => h x (List.mem_cons_of_mem _ hx)
    rw [List.sum_cons]; omega
theorem en_sum {o : Ck} (hb : 0 ≤ o.b) : ∀ {us : List Int} {s : St2}, (∀ u ∈ us, 0 ≤ u) → us.sum ≤ s.1 → en o s us
  | [], _, _, _ => True.intro
  | u :: us, s, h, hs => by
    have h1 := h u List.mem_cons_self
    have h2 : ∀ x ∈ us, 0 ≤ x := fun x hx => h x (List.mem_cons_of_mem _ hx)
    have h3 := sum_nn h2
    rw [List.sum_cons] at hs
    refine ⟨(s.1 - u + o.b, s.2), ?_, en_sum hb h2 (by show us.sum ≤ s.1 - u + o.b; omega)⟩
    unfold nxt
    rw [if_pos (by omega)]
/-- bonus, periods, length -/
structure Kd where
  b : Int
  p : Int
  l : Int
abbrev kP (k : Kd) : P := .tup [.int k.b, .int k.p, .int k.l]
abbrev at_ (k : Kd) (m : Int) : Ck := ⟨m, k.b, k.p, k.l⟩
abbrev wfD (k : Kd) : Prop := wfK (at_ k 0)
theorem wfD.at {k : Kd} (w : wfD k) {m : Int} (h : 0 ≤ m) : wfK (at_ k m) := ⟨h, w.b0, w.b1, w.p0, w.p1, w.pb, w.l0, w.l1, w.lp⟩
abbrev nn (us : List Int) : Prop := ∀ u ∈ us, 0 ≤ u
abbrev ok (k : Kd) (us : List Int) (m : Int) : Prop := en (at_ k m) (m, k.p) us
theorem wfD.l00 {k : Kd} (w : wfD k) : 0 ≤ k.l := by
  by_cases h : 0 < k.p
  · have : 1 ≤ k.l := w.l0 h; omega
  · have : k.l = 0 := w.lp (by have : 0 ≤ k.p := w.p0; show k.p = 0; omega); omega
theorem ok_mono {k : Kd} {us : List Int} {m m' : Int} (w : wfD k) (h : m ≤ m') (ho : ok k us m) : ok k us m' := en_mono (o := at_ k m) (o' := at_ k m') (s := (m, k.p)) (t := (m', k.p)) w.l00 rfl w.b0 (Int.le_refl _) h (Int.le_refl _) ho
theorem ok_sum {k : Kd} {us : List Int} (w : wfD k) (h : nn us) : ok k us us.sum := en_sum (o := at_ k us.sum) w.b0 h (Int.le_refl _)
def isNeed (k : Kd) (us : List Int) (v : Int) : Prop := 0 ≤ v ∧ ok k us v ∧ (v = 0 ∨ ¬ ok k us (v - 1))
theorem need_le {k k' : Kd} {us us' : List Int} {v v' : Int} (w : wfD k) (h : isNeed k us v) (h' : isNeed k' us' v') (imp : ok k' us' v' → ok k us v') : v ≤ v' := by
  obtain ⟨h0, h1, h2⟩ := h
  obtain ⟨g0, g1, g2⟩ := h'
  by_cases c : v ≤ v'
  · exact c
  · rcases h2 with h2 | h2
    · omega
    · exact absurd (ok_mono w (show v' ≤ v - 1 by omega) (imp g1)) h2
theorem need_one {k : Kd} {us : List Int} {v v' : Int} (w : wfD k) (h : isNeed k us v) (h' : isNeed k us v') : v = v' := by
  have h1 := need_le w h h' id
  have h2 := need_le w h' h id
  omega
theorem exNeed {k : Kd} {us : List Int} (w : wfD k) (h : useOk us) : ∃ v, isNeed k us v := by
  have hn : nn us := fun u hu => (h.2 u hu).1
  have go : ∀ (n : Nat) (v : Int), v.toNat = n → 0 ≤ v → ok k us v → ∃ v, isNeed k us v := by
    intro n
    induction n with
    | zero => exact fun v e h0 ho => ⟨v, h0, ho, .inl (by omega)⟩
    | succ n ih =>
      intro v e h0 ho
      by_cases c : ok k us (v - 1)
      · exact ih (v - 1) (by omega) (by omega) c
      · exact ⟨v, h0, ho, .inr c⟩
  exact go _ us.sum rfl (sum_nn hn) (ok_sum w hn)
theorem need_bd {k : Kd} {us : List Int} {v : Int} (w : wfD k) (hn : nn us) (h : isNeed k us v) : v ≤ us.sum := by
  obtain ⟨h0, h1, h2⟩ := h
  have h3 := sum_nn hn
  by_cases c : v ≤ us.sum
  · exact c
  · rcases h2 with h2 | h2
    · omega
    · exact absurd (ok_mono w (show us.sum ≤ v - 1 by omega) (ok_sum w hn)) h2
/-- more moves -/
theorem need_more {k : Kd} {us vs : List Int} {v v' : Int} (w : wfD k) (h : isNeed k us v) (h' : isNeed k (us ++ vs) v') : v ≤ v' := need_le w h h' en_pre
/-- more periods, a greater bonus -/
theorem need_less {k k' : Kd} {us : List Int} {v v' : Int} (w : wfD k) (w' : wfD k') (hp : k.p ≤ k'.p) (hb : k.b ≤ k'.b) (hl : k.l = k'.l) (h : isNeed k us v) (h' : isNeed k' us v') : v' ≤ v :=
  need_le w' h' h fun ho => en_mono (o := at_ k v) (o' := at_ k' v) (s := (v, k.p)) (t := (v, k'.p)) w.l00 hl w'.b0 hb (Int.le_refl _) hp ho
/-- without periods: by sums -/
def mx (b : Int) : Int → Int → Int → List Int → Int
  | _, _, m, [] => m
  | t, k, m, u :: us => mx b (t + u) (k + 1) (max m (t + u - k * b)) us
theorem mx_en {o : Ck} {m : Int} : ∀ {us : List Int} {t k most : Int}, mx o.b t k most us ≤ m ↔ most ≤ m ∧ en o (m - t + k * o.b, 0) us
  | [], t, k, most => ⟨fun h => ⟨h, True.intro⟩, fun h => h.1⟩
  | u :: us, t, k, most => by
    unfold mx en
    rw [mx_en]
    have e : m - (t + u) + (k + 1) * o.b = m - t + k * o.b - u + o.b := by rw [Int.add_mul, Int.one_mul]; omega
    rw [e]
    unfold nxt
    by_cases c : u ≤ m - t + k * o.b
    · rw [if_pos c]
      constructor
      · rintro ⟨h1, h2⟩
        exact ⟨by omega, _, rfl, h2⟩
      · rintro ⟨h1, s', e, h2⟩
        cases e
        exact ⟨by omega, h2⟩
    · rw [if_neg c, if_pos rfl]
      constructor
      · rintro ⟨h1, h2⟩
        omega
      · rintro ⟨h1, s', e, h2⟩
        cases e
theorem mx_need {k : Kd} {us : List Int} (hp : k.p = 0) : isNeed k us (mx k.b 0 0 0 us) := by
  have h : ∀ m : Int, mx k.b 0 0 0 us ≤ m ↔ 0 ≤ m ∧ ok k us m := fun m => by
    have := mx_en (o := at_ k m) (m := m) (us := us) (t := 0) (k := 0) (most := 0)
    rw [Int.sub_zero, Int.zero_mul, Int.add_zero] at this
    show mx (at_ k m).b 0 0 0 us ≤ m ↔ 0 ≤ m ∧ en (at_ k m) (m, k.p) us
    rw [hp]
    exact this
  have h0 := (h _).mp (Int.le_refl _)
  refine ⟨h0.1, h0.2, ?_⟩
  by_cases c : mx k.b 0 0 0 us = 0
  · exact .inl c
  · refine .inr fun z => ?_
    have := (h (mx k.b 0 0 0 us - 1)).mpr ⟨by have := h0.1; omega, z⟩
    omega
/-- two clocks by turns: who runs out with which move, and both states ahead of it -/
def trn (o0 o1 : Ck) : St2 → St2 → Bool → Int → List Int → Option (Int × Int) × St2 × St2
  | s0, s1, _, _, [] => (none, s0, s1)
  | s0, s1, false, k, u :: us => match nxt o0 s0 u with
    | none => (some (1, k), s0, s1)
    | some s' => trn o0 o1 s' s1 true (k + 1) us
  | s0, s1, true, k, u :: us => match nxt o1 s1 u with
    | none => (some (2, k), s0, s1)
    | some s' => trn o0 o1 s0 s' false (k + 1) us
theorem trn_f {o0 o1 : Ck} {s0 s1 : St2} {k u : Int} {us : List Int} : trn o0 o1 s0 s1 false k (u :: us) = (match nxt o0 s0 u with
    | none => (some (1, k), s0, s1)
    | some s' => trn o0 o1 s' s1 true (k + 1) us) := rfl
theorem trn_t {o0 o1 : Ck} {s0 s1 : St2} {k u : Int} {us : List Int} : trn o0 o1 s0 s1 true k (u :: us) = (match nxt o1 s1 u with
    | none => (some (2, k), s0, s1)
    | some s' => trn o0 o1 s0 s' false (k + 1) us) := rfl
def flp : Option (Int × Int) → Option (Int × Int)
  | none => none
  | some (c, i) => some (3 - c, i + 1)
theorem trn_swap (o0 o1 : Ck) : ∀ (us : List Int) (s0 s1 : St2) (b : Bool) (k : Int), trn o1 o0 s1 s0 (!b) (k + 1) us = (flp (trn o0 o1 s0 s1 b k us).1, (trn o0 o1 s0 s1 b k us).2.2, (trn o0 o1 s0 s1 b k us).2.1)
  | [], s0, s1, b, k => by cases b <;> rfl
  | u :: us, s0, s1, false, k => by
    rw [show (!false) = true from rfl, trn_f, trn_t]
    cases nxt o0 s0 u with
    | none => rfl
    | some s' => exact trn_swap o0 o1 us s' s1 true (k + 1)
  | u :: us, s0, s1, true, k => by
    rw [show (!true) = false from rfl, trn_f, trn_t]
    cases nxt o1 s1 u with
    | none => rfl
    | some s' => exact trn_swap o0 o1 us s0 s' false (k + 1)
theorem nxt_zero {o : Ck} {s : St2} (hb : o.b = 0) (h : 0 ≤ s.1) : nxt o s 0 = some s := by
  unfold nxt
  rw [if_pos h, hb, Int.sub_zero, Int.add_zero]
/-- a move of 0 seconds ahead, the clocks exchanged -/
theorem trn_zero {o0 o1 : Ck} {us : List Int} (hb : o1.b = 0) (h : 0 ≤ o1.m) : (trn o1 o0 (o1.m, o1.p) (o0.m, o0.p) false 0 (0 :: us)).1 = flp (trn o0 o1 (o0.m, o0.p) (o1.m, o1.p) false 0 us).1 := by
  rw [trn_f, nxt_zero hb h]
  show (trn o1 o0 (o1.m, o1.p) (o0.m, o0.p) (!false) (0 + 1) us).1 = _
  rw [trn_swap]
end R78
set_option maxRecDepth 100000
set_option maxHeartbeats 4000000
namespace R78
open PySem PySem.Spec PyProof.Rows L2 Z
section
variable {K : PySem.W.Frag} {Γ : Z.Env} {M : Mem} {E : XK} {t : TA} {a b c d i j h k u : Int} {r : Bool} {p q : P} {ps qs : List P} {te : TE} {w : Str} {o o0 o1 : Ck} {s s0 s1 : St2} {ns us : List Int} {Φ : Mem → D → Prop}
local macro_rules | `(tactic| get_elem_tactic_trivial) => `(tactic| first
  | exact rv_plus_i | exact rv_ii | exact rv_ib | exact rv_eq_ii | exact rv_ne_ii | exact rv_eq_ss | exact rv_ne_ss | exact rv_eq_bb | exact rv_ne_bb | exact rv_ixT rfl | exact rv_ixL rfl
  | exact rv_plus_t (Nat.le_of_ble_eq_true rfl) | exact rv_plus_l (Nat.le_of_ble_eq_true rfl) | exact rv_plus_s (Nat.le_of_ble_eq_true rfl) | exact rv_isB | exact rv_inL rfl rfl | exact rv_inT rfl rfl | exact rv_ic (by decide))
local macro_rules | `(tactic| decreasing_trivial) => `(tactic| first
  | exact rc_len rfl | exact rc_int | exact rc_intB | exact rc_abs | exact rc_tupleL | exact rc_tupleT | exact rc_list rfl | exact rc_max2 | exact rc_min2)
local macro_rules | `(tactic| trivial) => `(tactic| first
  | exact ep_int | exact ep_str | exact ep_bl | exact ep_non
  | exact ep_var rfl
  | (apply ep_op; trivial; trivial; get_elem_tactic_trivial)
  | (apply ep_cb; trivial; decreasing_trivial)
  | (apply ep_andF; trivial; rfl)
  | (apply ep_andV; trivial; intro _; trivial)
  | (apply ep_orT; trivial; rfl)
  | (apply ep_orV; trivial; intro _; trivial)
  | (apply ep_notV; trivial)
  | (apply ep_isN; trivial) | (apply ep_notN; trivial)
  | (apply ep_un; trivial; exact ru_i)
  | (apply ep_tup; trivial; exact Nat.le_of_ble_eq_true rfl) | (apply ep_lst; trivial; exact Nat.le_of_ble_eq_true rfl)
  | (apply ep_chain; trivial; trivial; get_elem_tactic_trivial; intro _; trivial; intro _; get_elem_tactic_trivial)
  | exact eps_nil | (apply eps_cons; trivial; trivial) | (apply eps_star; trivial; rfl; trivial)
  | (apply ef_ep; trivial)
  | (apply eb_B; trivial) | (apply eb_test; trivial)
  | (apply eb_andF; trivial; rfl)
  | (apply eb_and; trivial; intro _; trivial)
  | (apply eb_orT; trivial; rfl)
  | (apply eb_or; trivial; intro _; trivial)
  | (apply eb_not; trivial)
  | (apply ep_ifT; trivial; rfl; trivial) | (apply ep_ifF; trivial; rfl; trivial)
  | (apply ep_ifI; trivial; intro _; trivial; intro _; trivial) | (apply ep_ifL; trivial; intro _; trivial; intro _; trivial)
  | (apply ep_isi_int; trivial; first | rfl | assumption) | (apply ep_isi_bool; trivial; first | rfl | assumption) | (apply ep_isi_tuple; trivial; first | rfl | assumption) | (apply ep_isi_str; trivial; first | rfl | assumption)
  | (apply ep_isi_list; trivial; first | rfl | assumption) | (apply ep_isi_lt; trivial; first | rfl | assumption))
local macro_rules | `(tactic| trivial) => `(tactic| (apply ep_ixC rfl rfl; rfl))
local macro_rules | `(tactic| trivial) => `(tactic| (apply ca_is_integer; trivial; first | rfl | assumption))
local macro_rules | `(tactic| trivial) => `(tactic| (apply ca_is_between; trivial; first | rfl | assumption))
local macro_rules | `(tactic| trivial) => `(tactic| (apply ca_is_list; trivial; first | rfl | assumption))
local macro_rules | `(tactic| trivial) => `(tactic| (apply ca_check_clock; trivial))
local macro_rules | `(tactic| trivial) => `(tactic| (apply ca_first_state; trivial))
theorem pl_run_out (o : Ck) (r : Bool) (us : List Int) (w : wfK o) (hu : useOk us) : SV K 0 (t_run_out K (Scheck_clock K) (Scheck_uses K) (Sstates_in K)) (startE 3 [.v (cP K o), .v (sqP r (us.map .int))]) [] (DR (· = oiP (ro o us))) := by
  unfold t_run_out
  have hl : us.length ≤ 99999 := by have := hu.1; omega
  apply sv_seq; apply sv_drop; apply ev_ep; exact ca_check_clock (o := o) (eps_cons (ep_var rfl) eps_nil)
  apply sv_seq; apply sv_drop; apply ev_ep; (apply ca_check_uses; trivial; exact hu)
  apply sv_seq; apply sv_set (p := .int ((sts o (o.m, o.p) us).length - 1))
  · apply ep_op; (apply ep_cb; (apply eps_cons; apply ca_statesD (v := false); trivial; exact w; exact hu; exact eps_nil); exact rc_len (n := (sts o (o.m, o.p) us).length) (by simp [lenP])); trivial; exact rv_ii
  apply sv_retP (p := oiP (ro o us))
  · unfold ro
    by_cases h : ((sts o (o.m, o.p) us).length : Int) - 1 < us.length
    · rw [if_pos h]; apply ep_ifT; (apply eb_test; apply ep_op; trivial; (apply ep_cb; trivial; exact rc_len (len_sq hl)); exact rv_ib); exact decide_eq_true h; trivial
    · rw [if_neg h]; apply ep_ifF; (apply eb_test; apply ep_op; trivial; (apply ep_cb; trivial; exact rc_len (len_sq hl)); exact rv_ib); exact decide_eq_false h; trivial
  · exact fz_is rfl
theorem ca_ro {r : Bool} (hh : EPs K t Γ M [cP K o, sqP r (us.map .int)]) (w : wfK o) (hu : useOk us) : Z.EP K (tCall (Srun_out K) [] E t) Γ M (oiP (ro o us)) := ep_call hh (o, r, us) rfl ⟨w, hu⟩ (fun _ h => h)
theorem cn_ro {r : Bool} (hh : EPs K t Γ M [sqP r (us.map .int), cP K o]) (w : wfK o) (hu : useOk us) : Z.EP K (tCallN 0 (List.length (α := Str) ["uses", "clock"]) (Srun_out K) (fun vs zs => perm [1, 0] (vs ++ zs)) E tNil t) Γ M (oiP (ro o us)) := ep_callN eps_nil hh rfl rfl (o, r, us) rfl ⟨w, hu⟩ (fun _ h => h)
/-! two clocks -/
abbrev ks2 : List Key := [.inl 1, .inl 2]
abbrev dP (s0 s1 : St2) : P := .dct ks2 [sP s0, sP s1]
def wP : Option (Int × Int) → P
  | none => .non
  | some x => .tup [.int x.1, .int x.2]
abbrev tr0 (o0 o1 : Ck) (us : List Int) := trn o0 o1 (o0.m, o0.p) (o1.m, o1.p) false 0 us
abbrev Sgame_of (K : PySem.W.Frag) : Sp := PF K (fun x : Ck × Ck × Bool × List Int => [cP K x.1, cP K x.2.1, sqP x.2.2.1 (x.2.2.2.map .int)]) (fun x => wfK x.1 ∧ wfK x.2.1 ∧ useOk x.2.2.2) (fun x r => r = .tup [dP (tr0 x.1 x.2.1 x.2.2.2).2.1 (tr0 x.1 x.2.1 x.2.2.2).2.2, wP (tr0 x.1 x.2.1 x.2.2.2).1])
abbrev clM (K : PySem.W.Frag) (o0 o1 : Ck) : MC := .d ks2 [.v (cP K o0), .v (cP K o1)]
abbrev stM (s0 s1 : St2) : MC := .d ks2 [.v (sP s0), .v (sP s1)]
abbrev sdI (b : Bool) : Int := if b = true then 2 else 1
theorem fz_game {K : PySem.W.Frag} {o0 o1 : Ck} {s0 s1 : St2} : Fz 0 [clM K o0 o1, stM s0 s1] (.c 1) (dP s0 s1) := .d (Nat.zero_le _) rfl (.cons (.v _) (.cons (.v _) .nil))
theorem pl_game_of (o0 o1 : Ck) (r : Bool) (us : List Int) (w0 : wfK o0) (w1 : wfK o1) (hu : useOk us) : SV K 0 (t_game_of K (Sother_color K) (Sfirst_state K) (Snext_state K)) (startE 10 [.v (cP K o0), .v (cP K o1), .v (sqP r (us.map .int))]) [] (DR (· = .tup [dP (tr0 o0 o1 us).2.1 (tr0 o0 o1 us).2.2, wP (tr0 o0 o1 us).1])) := by
  unfold t_game_of
  apply sv_seq; apply sv_par3; apply ea_cons; apply ev_disp
  refine ea_ep (eps_cons ep_int (eps_cons (ep_var rfl) (eps_cons (ca_other_color (eps_cons ep_int eps_nil)) (eps_cons (ep_var rfl) eps_nil)))) ⟨ks2, [.v (cP K o0), .v (cP K o1)], rfl, rfl, by decide, by decide, ?_⟩
  apply ea_cons; apply ev_dnew; apply ea_ep (eps_cons ep_int eps_nil)
  refine ⟨_, _, _, rfl, ?_⟩
  apply sv_seq
  refine sv_keys (kc := 0) rfl rfl (fun u i Γ M => ∃ x6, Γ = [some (.v (cP K o0)), some (.v (cP K o1)), some (.v (sqP r (us.map .int))), some (.c 0), some (.c 1), some (.v (.int 1)), x6, none, none, none] ∧
    M = [.f u ks2 [.v (cP K o0), .v (cP K o1)], if i = 0 then .d [] [] else if i = 1 then .d [.inl 1] [.v (sP (o0.m, o0.p))] else stM (o0.m, o0.p) (o1.m, o1.p)]) (fun u => ⟨_, rfl, rfl⟩) ?_ ?_ ?_
  · rintro u i k Γ1 M1 hk ⟨x6, rfl, rfl⟩
    match i, hk with
    | 0, hk =>
      cases hk
      apply gv_name
      apply sv_dputS (kc := 1) rfl rfl (by decide) (k := .inl 1) (ca_first_state (v := false) (o := o0) (eps_cons (ep_dgetC (kc := 0) (k := .inl 1) rfl rfl (.inr ⟨_, rfl⟩) (ep_var rfl) rfl) eps_nil)) (ep_var rfl)
      exact ni_refl ⟨_, rfl, rfl⟩
    | 1, hk =>
      cases hk
      apply gv_name
      apply sv_dputS (kc := 1) rfl rfl (by decide) (k := .inl 2) (ca_first_state (v := false) (o := o1) (eps_cons (ep_dgetC (kc := 0) (k := .inl 2) rfl rfl (.inr ⟨_, rfl⟩) (ep_var rfl) rfl) eps_nil)) (ep_var rfl)
      exact ni_refl ⟨_, rfl, rfl⟩
  · rintro u i Γ1 M1 ⟨x6, rfl, rfl⟩; rfl
  rintro u Γ1 M1 ⟨x6, rfl, rfl⟩
  apply sv_seq; apply sv_for; apply ei_ip; exact eip_enum (eps_cons (ep_var rfl) eps_nil) sq_items
  refine ⟨fun i Γ M => ∃ (s0 s1 : St2) (b : Bool) (x6 x7 x8 x9 : Option D), wfS o0 s0 ∧ wfS o1 s1 ∧ trn o0 o1 s0 s1 b i (us.drop i) = tr0 o0 o1 us ∧ M = [clM K o0 o1, stM s0 s1] ∧
    Γ = [some (.v (cP K o0)), some (.v (cP K o1)), some (.v (sqP r (us.map .int))), some (.c 0), some (.c 1), some (.v (.int (sdI b))), x6, x7, x8, x9],
    ⟨_, _, false, _, _, _, _, start_wf w0, start_wf w1, rfl, rfl, rfl⟩, ?_, ?_⟩
  · rintro i p Γ1 M1 hp ⟨s0, s1, b, x6, x7, x8, x9, ws0, ws1, ht, rfl, rfl⟩
    have hi : i < us.length := by
      have := (List.getElem?_eq_some_iff.mp hp).1
      rwa [enumP_len, List.length_map] at this
    have hui : us[i]? = some us[i] := List.getElem?_eq_getElem hi
    have hp2 := enumP_get (j := 0) (i := i) (ps := us.map P.int) (p := .int us[i]) (by rw [List.getElem?_map, hui]; rfl)
    rw [hp2, Nat.zero_add] at hp
    cases hp
    have hu0 := hu.2 _ (List.mem_of_getElem? hui)
    generalize us[i] = u at hui hu0 ⊢
    have hdrop : us.drop i = u :: us.drop (i + 1) := by
      rw [List.drop_eq_getElem_cons hi]
      congr 1
      exact (List.getElem?_eq_some_iff.mp hui).2
    rw [hdrop] at ht
    apply gv_tup rfl; apply gvs_cons; apply gv_name; apply gvs_cons; apply gv_name; apply gvs_nil
    cases b with
    | false =>
      rw [trn_f] at ht
      apply sv_seq; apply sv_set
      · exact ca_next_state (v := false) (o := o0) (s := s0) (u := u) (eps_cons (ep_dgetC (kc := 0) (k := .inl 1) rfl rfl (.inl rfl) (ep_var rfl) rfl) (eps_cons (ep_dgetC (kc := 1) (k := .inl 1) rfl rfl (.inl rfl) (ep_var rfl) rfl) (eps_cons (ep_var rfl) eps_nil))) w0 ws0
      cases e : nxt o0 s0 u with
      | none =>
        rw [e] at ht
        apply sv_seq; apply sv_ifT; (apply eb_B; exact ep_isN (p := .non) (ef_ep (ep_var rfl))); rfl
        apply sv_ret; apply ev_tupD
        apply ea_cons; apply ev_var rfl; apply ea_ep (eps_cons (ep_tup (eps_cons (ep_var rfl) (eps_cons (ep_var rfl) eps_nil)) (Nat.le_of_ble_eq_true rfl)) eps_nil)
        refine ⟨Nat.le_of_ble_eq_true rfl, .tup [dP s0 s1, .tup [.int 1, .int (i : Nat)]], .tp (.cons fz_game (.cons (.v _) .nil)), ?_⟩
        rw [← ht]; rfl
      | some s' =>
        rw [e] at ht
        apply sv_seq; apply sv_ifF; (apply eb_B; exact ep_isN (p := sP s') (ef_ep (ep_var rfl))); rfl
        apply sv_next
        apply sv_asgDN (kc := 1) (k := .inl 1) (p := sP s') (q := .int 2) rfl rfl (by decide)
        · exact eps_cons (ep_var rfl) (eps_cons (ca_other_color (i := 1) (eps_cons (ep_var rfl) eps_nil)) eps_nil)
        · exact ep_var rfl
        exact ni_refl ⟨s', s1, true, _, _, _, _, nxt_wf w0 ws0 hu0.1 e, ws1, ht, rfl, rfl⟩
    | true =>
      rw [trn_t] at ht
      apply sv_seq; apply sv_set
      · exact ca_next_state (v := false) (o := o1) (s := s1) (u := u) (eps_cons (ep_dgetC (kc := 0) (k := .inl 2) rfl rfl (.inl rfl) (ep_var rfl) rfl) (eps_cons (ep_dgetC (kc := 1) (k := .inl 2) rfl rfl (.inl rfl) (ep_var rfl) rfl) (eps_cons (ep_var rfl) eps_nil))) w1 ws1
      cases e : nxt o1 s1 u with
      | none =>
        rw [e] at ht
        apply sv_seq; apply sv_ifT; (apply eb_B; exact ep_isN (p := .non) (ef_ep (ep_var rfl))); rfl
        apply sv_ret; apply ev_tupD
        apply ea_cons; apply ev_var rfl; apply ea_ep (eps_cons (ep_tup (eps_cons (ep_var rfl) (eps_cons (ep_var rfl) eps_nil)) (Nat.le_of_ble_eq_true rfl)) eps_nil)
        refine ⟨Nat.le_of_ble_eq_true rfl, .tup [dP s0 s1, .tup [.int 2, .int (i : Nat)]], .tp (.cons fz_game (.cons (.v _) .nil)), ?_⟩
        rw [← ht]; rfl
      | some s' =>
        rw [e] at ht
        apply sv_seq; apply sv_ifF; (apply eb_B; exact ep_isN (p := sP s') (ef_ep (ep_var rfl))); rfl
        apply sv_next
        apply sv_asgDN (kc := 1) (k := .inl 2) (p := sP s') (q := .int 1) rfl rfl (by decide)
        · exact eps_cons (ep_var rfl) (eps_cons (ca_other_color (i := 2) (eps_cons (ep_var rfl) eps_nil)) eps_nil)
        · exact ep_var rfl
        exact ni_refl ⟨s0, s', false, _, _, _, _, ws0, nxt_wf w1 ws1 hu0.1 e, ht, rfl, rfl⟩
  · rintro Γ1 M1 ⟨s0, s1, b, x6, x7, x8, x9, ws0, ws1, ht, rfl, rfl⟩
    rw [enumP_len, List.length_map, List.drop_length] at ht
    apply sv_ret; apply ev_tupD
    apply ea_cons; apply ev_var rfl; apply ea_ep (eps_cons ep_non eps_nil)
    refine ⟨Nat.le_of_ble_eq_true rfl, .tup [dP s0 s1, .non], .tp (.cons fz_game (.cons (.v _) .nil)), ?_⟩
    rw [← ht]
    cases b <;> rfl
theorem ca_game_of {r : Bool} (hh : EPs K t Γ M [cP K o0, cP K o1, sqP r (us.map .int)]) (w0 : wfK o0) (w1 : wfK o1) (hu : useOk us) : Z.EP K (tCall (Sgame_of K) [] E t) Γ M (.tup [dP (tr0 o0 o1 us).2.1 (tr0 o0 o1 us).2.2, wP (tr0 o0 o1 us).1]) := ep_call hh (o0, o1, r, us) rfl ⟨w0, w1, hu⟩ (fun _ h => h)
abbrev Sfirst_out (K : PySem.W.Frag) : Sp := PF K (fun x : Ck × Ck × Bool × List Int => [cP K x.1, cP K x.2.1, sqP x.2.2.1 (x.2.2.2.map .int)]) (fun x => wfK x.1 ∧ wfK x.2.1 ∧ useOk x.2.2.2) (fun x r => r = wP (tr0 x.1 x.2.1 x.2.2.2).1)
theorem pl_first_out (o0 o1 : Ck) (r : Bool) (us : List Int) (w0 : wfK o0) (w1 : wfK o1) (hu : useOk us) : SV K 0 (t_first_out K (Scheck_clocks K) (Scheck_uses K) (Sgame_of K)) (startE 3 [.v (cP K o0), .v (cP K o1), .v (sqP r (us.map .int))]) [] (DR (· = wP (tr0 o0 o1 us).1)) := by
  unfold t_first_out
  apply sv_seq; apply sv_drop; apply ev_ep; exact ca_check_clocks (o := o0) (o' := o1) (eps_cons (ep_var rfl) (eps_cons (ep_var rfl) eps_nil))
  apply sv_seq; apply sv_drop; apply ev_ep; (apply ca_check_uses; trivial; exact hu)
  apply sv_retP
  · exact ep_op (ca_game_of (eps_cons (ep_var rfl) (eps_cons (ep_var rfl) (eps_cons (ep_var rfl) eps_nil))) w0 w1 hu) ep_int (rv_ixT rfl)
  · exact fz_is rfl
abbrev Sstates_left (K : PySem.W.Frag) : Sp := PF K (fun x : Ck × Ck × Bool × List Int => [cP K x.1, cP K x.2.1, sqP x.2.2.1 (x.2.2.2.map .int)]) (fun x => wfK x.1 ∧ wfK x.2.1 ∧ useOk x.2.2.2) (fun x r => r = .tup [sP (tr0 x.1 x.2.1 x.2.2.2).2.1, sP (tr0 x.1 x.2.1 x.2.2.2).2.2])
theorem pl_states_left (o0 o1 : Ck) (r : Bool) (us : List Int) (w0 : wfK o0) (w1 : wfK o1) (hu : useOk us) : SV K 0 (t_states_left K (Scheck_clocks K) (Scheck_uses K) (Sgame_of K) (Sother_color K)) (startE 4 [.v (cP K o0), .v (cP K o1), .v (sqP r (us.map .int))]) [] (DR (· = .tup [sP (tr0 o0 o1 us).2.1, sP (tr0 o0 o1 us).2.2])) := by
  unfold t_states_left
  apply sv_seq; apply sv_drop; apply ev_ep; exact ca_check_clocks (o := o0) (o' := o1) (eps_cons (ep_var rfl) (eps_cons (ep_var rfl) eps_nil))
  apply sv_seq; apply sv_drop; apply ev_ep; (apply ca_check_uses; trivial; exact hu)
  apply sv_seq; apply sv_set; exact ep_op (ca_game_of (eps_cons (ep_var rfl) (eps_cons (ep_var rfl) (eps_cons (ep_var rfl) eps_nil))) w0 w1 hu) ep_int (rv_ixT rfl)
  apply sv_retP
  · exact ep_tup (eps_cons (ep_dget (k := .inl 1) (ep_var rfl) ep_int rfl) (eps_cons (ep_dget (k := .inl 2) (ep_var rfl) (ca_other_color (i := 1) (eps_cons ep_int eps_nil)) rfl) eps_nil)) (Nat.le_of_ble_eq_true rfl)
  · exact fz_is rfl
end
end R78
set_option maxRecDepth 100000
set_option maxHeartbeats 4000000
namespace R78
open PySem PySem.Spec PyProof.Rows L2 Z
section
variable {K : PySem.W.Frag} {Γ : Z.Env} {M : Mem} {E : XK} {t : TA} {a b c d i j h k u : Int} {r : Bool} {p q : P} {ps qs : List P} {te : TE} {w : Str} {o o0 o1 : Ck} {s s0 s1 : St2} {ns us : List Int} {Φ : Mem → D → Prop} {kd : Kd}
local macro_rules | `(tactic| get_elem_tactic_trivial) => `(tactic| first
  | exact rv_plus_i | exact rv_ii | exact rv_ib | exact rv_eq_ii | exact rv_ne_ii | exact rv_eq_ss | exact rv_ne_ss | exact rv_eq_bb | exact rv_ne_bb | exact rv_ixT rfl | exact rv_ixL rfl
  | exact rv_plus_t (Nat.le_of_ble_eq_true rfl) | exact rv_plus_l (Nat.le_of_ble_eq_true rfl) | exact rv_plus_s (Nat.le_of_ble_eq_true rfl) | exact rv_isB | exact rv_inL rfl rfl | exact rv_inT rfl rfl | exact rv_ic (by decide))
local macro_rules | `(tactic| decreasing_trivial) => `(tactic| first
  | exact rc_len rfl | exact rc_int | exact rc_intB | exact rc_abs | exact rc_tupleL | exact rc_tupleT | exact rc_list rfl | exact rc_max2 | exact rc_min2)
local macro_rules | `(tactic| trivial) => `(tactic| first
  | exact ep_int | exact ep_str | exact ep_bl | exact ep_non
  | exact ep_var rfl
  | (apply ep_op; trivial; trivial; get_elem_tactic_trivial)
  | (apply ep_cb; trivial; decreasing_trivial)
  | (apply ep_andF; trivial; rfl)
  | (apply ep_andV; trivial; intro _; trivial)
  | (apply ep_orT; trivial; rfl)
  | (apply ep_orV; trivial; intro _; trivial)
  | (apply ep_notV; trivial)
  | (apply ep_isN; trivial) | (apply ep_notN; trivial)
  | (apply ep_un; trivial; exact ru_i)
  | (apply ep_tup; trivial; exact Nat.le_of_ble_eq_true rfl) | (apply ep_lst; trivial; exact Nat.le_of_ble_eq_true rfl)
  | (apply ep_chain; trivial; trivial; get_elem_tactic_trivial; intro _; trivial; intro _; get_elem_tactic_trivial)
  | exact eps_nil | (apply eps_cons; trivial; trivial) | (apply eps_star; trivial; rfl; trivial)
  | (apply ef_ep; trivial)
  | (apply eb_B; trivial) | (apply eb_test; trivial)
  | (apply eb_andF; trivial; rfl)
  | (apply eb_and; trivial; intro _; trivial)
  | (apply eb_orT; trivial; rfl)
  | (apply eb_or; trivial; intro _; trivial)
  | (apply eb_not; trivial)
  | (apply ep_ifT; trivial; rfl; trivial) | (apply ep_ifF; trivial; rfl; trivial)
  | (apply ep_ifI; trivial; intro _; trivial; intro _; trivial) | (apply ep_ifL; trivial; intro _; trivial; intro _; trivial)
  | (apply ep_isi_int; trivial; first | rfl | assumption) | (apply ep_isi_bool; trivial; first | rfl | assumption) | (apply ep_isi_tuple; trivial; first | rfl | assumption) | (apply ep_isi_str; trivial; first | rfl | assumption)
  | (apply ep_isi_list; trivial; first | rfl | assumption) | (apply ep_isi_lt; trivial; first | rfl | assumption))
local macro_rules | `(tactic| trivial) => `(tactic| (apply ep_ixC rfl rfl; rfl))
local macro_rules | `(tactic| trivial) => `(tactic| (apply ca_is_integer; trivial; first | rfl | assumption))
local macro_rules | `(tactic| trivial) => `(tactic| (apply ca_is_between; trivial; first | rfl | assumption))
local macro_rules | `(tactic| trivial) => `(tactic| (apply ca_is_list; trivial; first | rfl | assumption))
local macro_rules | `(tactic| trivial) => `(tactic| (apply ca_check_clock; trivial))
local macro_rules | `(tactic| trivial) => `(tactic| (apply ca_first_state; trivial))
theorem okn {us : List Int} (h : useOk us) : nn us := fun u hu => (h.2 u hu).1
abbrev Sneeded_main (K : PySem.W.Frag) : Sp := PF K (fun x : Kd × Bool × List Int => [.int x.1.b, .int x.1.p, .int x.1.l, sqP x.2.1 (x.2.2.map .int)]) (fun x => wfD x.1 ∧ useOk x.2.2) (fun x r => ∃ v : Int, r = .int v ∧ isNeed x.1 x.2.2 v)
theorem pl_needed_main (kd : Kd) (r : Bool) (us : List Int) (w : wfD kd) (hu : useOk us) : SV K 0 (t_needed_main K (Scheck_periods K) (Scheck_uses K) (Sstates_in K) (SValues__init__ K)) (startE 7 [.v (.int kd.b), .v (.int kd.p), .v (.int kd.l), .v (sqP r (us.map .int))]) [] (DR (fun r => ∃ v : Int, r = .int v ∧ isNeed kd us v)) := by
  unfold t_needed_main
  have hl : us.length ≤ 99999 := by have := hu.1; omega
  apply sv_seq; apply sv_drop; apply ev_ep; exact ca_check_periods (o := at_ kd 0) (eps_cons (ep_var rfl) (eps_cons (ep_var rfl) (eps_cons (ep_var rfl) eps_nil))) w
  apply sv_seq; apply sv_drop; apply ev_ep; (apply ca_check_uses; trivial; exact hu)
  apply sv_seq; apply sv_par; apply ea_ep
  · exact eps_cons ep_int (eps_cons (ep_cb (eps_cons (ep_cb (eps_cons (ep_var rfl) eps_nil) (rc_list sq_items)) eps_nil) rc_sum) eps_nil)
  refine ⟨_, _, rfl, ?_⟩
  apply sv_seq
  refine sv_while (fun m Γ M => M = [] ∧ ∃ (lo hi : Int) (x6 : Option D), 0 ≤ lo ∧ lo ≤ hi ∧ ok kd us hi ∧ (lo = 0 ∨ ¬ ok kd us (lo - 1)) ∧ m = (hi - lo).toNat ∧ Γ = [some (.v (.int kd.b)), some (.v (.int kd.p)), some (.v (.int kd.l)), some (.v (sqP r (us.map .int))), some (.v (.int lo)), some (.v (.int hi)), x6]) (us.sum - 0).toNat ⟨rfl, 0, us.sum, _, Int.le_refl 0, sum_nn (okn hu), ok_sum w (okn hu), .inl rfl, rfl, rfl⟩ ?_
  rintro m Γ1 M1 ⟨rfl, lo, hi, x6, h0, h1, h2, h3, rfl, rfl⟩
  refine et_eb (b := decide (lo < hi)) (by trivial) ?_
  by_cases hlt : lo < hi
  · rw [if_pos (decide_eq_true hlt)]
    have hd : (2 : Int) * ((lo + hi) / 2) ≤ lo + hi ∧ lo + hi < 2 * ((lo + hi) / 2) + 2 := by omega
    apply sv_seq; apply sv_set; (apply ep_op; trivial; trivial; exact rv_ic ⟨by decide, by decide⟩)
    generalize (lo + hi) / 2 = mid at hd ⊢
    have hm : 0 ≤ mid := by omega
    refine sv_ifB (b := decide ((us.length : Int) < ((sts (at_ kd mid) (mid, kd.p) us).length : Int))) ?_ ?_ ?_
    · apply eb_test; apply ep_op
      · apply ep_cb
        · exact eps_cons (ca_statesD (v := true) (o := at_ kd mid) (r := r) (us := us) (eps_cons (ca_Values (o := at_ kd mid) (eps_cons (ep_var rfl) (eps_cons (ep_var rfl) (eps_cons (ep_var rfl) (eps_cons (ep_var rfl) eps_nil))))) (eps_cons (ep_var rfl) eps_nil)) (w.at hm) hu) eps_nil
        · exact rc_len (n := (sts (at_ kd mid) (mid, kd.p) us).length) (by simp [lenP])
      · exact ep_cb (eps_cons (ep_var rfl) eps_nil) (rc_len (len_sq hl))
      · exact rv_ib
    · intro hb
      have hb := of_decide_eq_true hb
      have hle := (sts_len (at_ kd mid) us (mid, kd.p)).1
      have hok : ok kd us mid := (en_len _ us _).mpr (by omega)
      apply sv_set; trivial
      exact ni_refl ⟨_, by omega, rfl, lo, mid, _, h0, by omega, hok, h3, rfl, rfl⟩
    · intro hb
      have hb := of_decide_eq_false hb
      have hok : ¬ ok kd us mid := fun z => by
        have := (en_len _ us _).mp z
        omega
      apply sv_set; trivial
      exact ni_refl ⟨_, by omega, rfl, mid + 1, hi, _, by omega, by omega, h2, .inr (by rw [Int.add_sub_cancel]; exact hok), rfl, rfl⟩
  · rw [if_neg (by simpa using hlt)]
    have e : hi = lo := by omega
    subst e
    apply sv_retP; trivial
    exact ⟨_, .v _, hi, rfl, h0, h2, h3⟩
theorem ca_needed {r : Bool} {v : Int} (hh : EPs K t Γ M [.int kd.b, .int kd.p, .int kd.l, sqP r (us.map .int)]) (w : wfD kd) (hu : useOk us) (hv : isNeed kd us v) : Z.EP K (tCall (Sneeded_main K) [] E t) Γ M (.int v) := ep_call hh (kd, r, us) rfl ⟨w, hu⟩ (fun p ⟨v', e, h⟩ => by rw [e, need_one w h hv])
theorem cn_needed {r : Bool} {v : Int} (hh : EPs K t Γ M [sqP r (us.map .int), .int kd.l, .int kd.p, .int kd.b]) (w : wfD kd) (hu : useOk us) (hv : isNeed kd us v) : Z.EP K (tCallN 0 (List.length (α := Str) ["uses", "length", "periods", "bonus"]) (Sneeded_main K) (fun vs zs => perm [3, 2, 1, 0] (vs ++ zs)) E tNil t) Γ M (.int v) := ep_callN eps_nil hh rfl rfl (kd, r, us) rfl ⟨w, hu⟩ (fun p ⟨v', e, h⟩ => by rw [e, need_one w h hv])
/-! the law's own steps -/
abbrev rnP (x : Option St2) : P := .tup [soP x, .int (if x = none then 0 else 1)]
abbrev oneOk (u : Int) : Prop := 0 ≤ u ∧ u ≤ 1000000000000
abbrev S_law_run (K : PySem.W.Frag) : Sp := PF K (fun x : Ck × St2 × Int => [oP x.1, sP x.2.1, .int 1, .int x.2.2]) (fun x => wfK x.1 ∧ wfS x.1 x.2.1 ∧ oneOk x.2.2) (fun x r => r = rnP (nxt x.1 x.2.1 x.2.2))
theorem pl__law_run (o : Ck) (s : St2) (u : Int) (w : wfK o) (ws : wfS o s) (hr : oneOk u) : SV K 0 (t__law_run K) (startE 12 [.v (oP o), .v (sP s), .v (.int 1), .v (.int u)]) [] (DR (· = rnP (nxt o s u))) := by
  unfold t__law_run
  obtain ⟨hu0, hu1⟩ := hr
  have hb := w.b0; have hb1 := w.b1
  have s0 := ws.s0
  have wd : ∀ {i j : Int}, 0 < j → j ≤ 1000000000000 → CDivW i j := fun h1 h2 => L2.wide_div (b := 64) h1 (by omega) (by decide) (by decide)
  apply sv_seq; apply sv_tup; trivial; apply gv_tup rfl; apply gvs_cons; apply gv_name; apply gvs_cons; apply gv_name; apply gvs_nil
  apply sv_seq; apply sv_ifB; trivial
  · intro hp
    have hp : o.p = 0 := of_decide_eq_true hp
    have h2 := ws.sp hp
    have tt : ∀ Γ2 : Z.Env, Γ2[4]? = some (some (.v (.int s.1))) → Γ2[2]? = some (some (.v (.int 1))) → Γ2[6]? = some (some (.v (.int (u - o.b)))) → Z.EP K (tTup (tCons (tTup (tCons (tOp (rI0 fun i j => .int (i - j)) (tVar 4) (tOp (rI CMul fun i j => .int (i * j)) (tVar 2) (tVar 6))) (tCons (tC (.int 0)) tNil))) (tCons (tVar 2) tNil))) Γ2 [] (.tup [.tup [.int (s.1 - 1 * (u - o.b)), .int 0], .int 1]) := fun Γ2 g4 g2 g6 =>
      ep_tup (eps_cons (ep_tup (eps_cons (ep_op (ep_var g4) (ep_op (ep_var g2) (ep_var g6) (rv_ic (.inl ⟨by decide, by decide⟩))) rv_ii) (eps_cons ep_int eps_nil)) (Nat.le_of_ble_eq_true rfl)) (eps_cons (ep_var g2) eps_nil)) (Nat.le_of_ble_eq_true rfl)
    have ee : u ≤ s.1 → P.tup [.tup [.int (s.1 - 1 * (u - o.b)), .int 0], .int 1] = rnP (nxt o s u) := fun h => by
      unfold nxt
      rw [if_pos h, h2]
      show P.tup [.tup [.int (s.1 - 1 * (u - o.b)), .int 0], .int 1] = .tup [.tup [.int (s.1 - u + o.b), .int 0], .int 1]
      rw [Int.one_mul, show s.1 - (u - o.b) = s.1 - u + o.b by omega]
    apply sv_seq; apply sv_set; trivial
    apply sv_seq; apply sv_ifB; trivial
    · intro h
      have h : s.1 < u := of_decide_eq_true h
      apply sv_retP; trivial; apply fz_is; unfold nxt; rw [if_neg (by omega), if_pos h2]; rfl
    intro h
    have h : ¬ s.1 < u := of_decide_eq_false h
    apply sv_next
    apply sv_seq; apply sv_ifB; trivial
    · intro h2
      apply sv_retP; exact tt _ rfl rfl rfl; apply fz_is; exact ee (by omega)
    intro h3
    have h3 : ¬ u - o.b ≤ 0 := of_decide_eq_false h3
    apply sv_next
    have hd0 : 0 ≤ (s.1 - u) / (u - o.b) := Int.ediv_nonneg (by omega) (by omega)
    apply sv_seq; apply sv_set; (apply ep_op; (apply ep_op; trivial; trivial; exact rv_ic (wd (by omega) (by omega))); trivial; exact rv_plus_i)
    generalize (s.1 - u) / (u - o.b) = made at hd0
    apply sv_retP
    · apply ep_ifT; trivial; exact decide_eq_true (show (1 : Int) ≤ made + 1 by omega); exact tt _ rfl rfl rfl
    · apply fz_is; exact ee (by omega)
  intro hp
  have hp : ¬ o.p = 0 := of_decide_eq_false hp
  have hp : 0 < o.p := by have := w.p0; omega
  have hl0 := w.l0 hp; have hl1 := w.l1; have hpb := w.pb hp; have hsq := ws.sq hp
  apply sv_next
  apply sv_seq; apply sv_ifB; trivial
  · intro h
    have h : u = 0 := of_decide_eq_true h
    subst h
    apply sv_retP; trivial; apply fz_is
    rw [nxt_zero hpb s0]
    rfl
  intro h
  have h : ¬ u = 0 := of_decide_eq_false h
  have hu : 0 < u := by omega
  apply sv_next
  have hd0 : 0 ≤ s.1 / u := Int.ediv_nonneg s0 (by omega)
  have hle : 1 ≤ s.1 / u ↔ u ≤ s.1 := by
    have := Int.le_ediv_iff_mul_le (a := 1) (b := s.1) hu
    rw [this, Int.one_mul]
  apply sv_seq; apply sv_set (p := .int (min 1 (s.1 / u)))
  · refine ep_cast (ep_cb (eps_cons (ep_var rfl) (eps_cons (ep_op (ep_var rfl) (ep_var rfl) (rv_ic (wd (by omega) (by omega)))) eps_nil)) rc_min2) ?_
    rw [min_if]
  by_cases hc : u ≤ s.1
  · have e1 : min 1 (s.1 / u) = 1 := by have := hle.mpr hc; omega
    rw [e1]
    apply sv_seq; apply sv_set; (apply ep_op; trivial; (apply ep_op; trivial; trivial; exact rv_ic (.inl ⟨by decide, by decide⟩)); exact rv_ii)
    apply sv_seq; apply sv_ifT; trivial; rfl
    apply sv_retP; trivial; apply fz_is
    unfold nxt
    rw [if_pos hc]
    show P.tup [.tup [.int (s.1 - 1 * u), .int s.2], .int 1] = .tup [.tup [.int (s.1 - u + o.b), .int s.2], .int 1]
    rw [Int.one_mul, hpb, Int.add_zero]
  have e1 : min 1 (s.1 / u) = 0 := by
    have : ¬ 1 ≤ s.1 / u := fun z => hc (hle.mp z)
    omega
  rw [e1]
  apply sv_seq; apply sv_set; (apply ep_op; trivial; (apply ep_op; trivial; trivial; exact rv_ic (.inl ⟨by decide, by decide⟩)); exact rv_ii)
  rw [Int.zero_mul, Int.sub_zero]
  apply sv_seq; apply sv_ifF; trivial; rfl; apply sv_next
  apply sv_seq; apply sv_set; (apply ep_op; trivial; trivial; exact rv_ic (wd (by omega) (by omega)))
  have hq0 : 0 ≤ (u - s.1 - 1) / o.l := Int.ediv_nonneg (by omega) (by omega)
  have en : nxt o s u = if (u - s.1 - 1) / o.l < s.2 then some (0, s.2 - (u - s.1 - 1) / o.l) else none := by
    unfold nxt
    rw [if_neg hc, if_neg (by omega)]
  rw [en]
  generalize (u - s.1 - 1) / o.l = lost at hq0 ⊢
  apply sv_seq; apply sv_ifB; trivial
  · intro h3
    have h3 : s.2 ≤ lost := of_decide_eq_true h3
    apply sv_retP; trivial; apply fz_is
    rw [if_neg (by omega)]
    rfl
  intro h3
  have h3 : ¬ s.2 ≤ lost := of_decide_eq_false h3
  rw [if_pos (by omega)]
  apply sv_next
  apply sv_seq; apply sv_par3; apply ea_ep
  · apply eps_cons; trivial; apply eps_cons; trivial; apply eps_cons; (apply ep_op; trivial; trivial; exact rv_ic (wd (by omega) (by omega))); exact eps_nil
  refine ⟨_, _, _, rfl, ?_⟩
  apply sv_seq; apply sv_ifT
  · apply eb_or; trivial; intro _; trivial
  · simp
  apply sv_retP; trivial; apply fz_is; rfl
theorem ca__law_run (hh : EPs K t Γ M [oP o, sP s, .int 1, .int u]) (w : wfK o) (ws : wfS o s) (hr : oneOk u) : Z.EP K (tCall (S_law_run K) [] E t) Γ M (rnP (nxt o s u)) := ep_call hh (o, s, u) rfl ⟨w, ws, hr⟩ (fun _ h => h)
end
end R78
set_option maxRecDepth 100000
set_option maxHeartbeats 4000000
namespace R78
open PySem PySem.Spec PyProof.Rows L2 Z
theorem sum_le {c : Int} : ∀ {us : List Int}, (∀ u ∈ us, u ≤ c) → us.sum ≤ us.length * c
  | [], _ => by simp
  | u :: us, h => by
    have h1 := h u List.mem_cons_self
    have h2 := sum_le (us := us) fun x hx => h x (List.mem_cons_of_mem _ hx)
    rw [List.sum_cons, List.length_cons, Int.natCast_succ, Int.add_mul, Int.one_mul]
    omega
theorem sum_top {us : List Int} (h : useOk us) : us.sum ≤ 400000000000000 := by
  have h1 := sum_le (c := 1000000000000) fun u hu => (h.2 u hu).2
  have h2 := h.1
  omega
section
variable {K : PySem.W.Frag} {Γ : Z.Env} {M : Mem} {E : XK} {t : TA} {a b c d i j h k u : Int} {r : Bool} {p q : P} {ps qs : List P} {te : TE} {w : Str} {o o0 o1 : Ck} {s s0 s1 : St2} {ns us : List Int} {Φ : Mem → D → Prop} {kd : Kd}
local macro_rules | `(tactic| get_elem_tactic_trivial) => `(tactic| first
  | exact rv_plus_i | exact rv_ii | exact rv_ib | exact rv_eq_ii | exact rv_ne_ii | exact rv_eq_ss | exact rv_ne_ss | exact rv_eq_bb | exact rv_ne_bb | exact rv_ixT rfl | exact rv_ixL rfl
  | exact rv_plus_t (Nat.le_of_ble_eq_true rfl) | exact rv_plus_l (Nat.le_of_ble_eq_true rfl) | exact rv_plus_s (Nat.le_of_ble_eq_true rfl) | exact rv_isB | exact rv_inL rfl rfl | exact rv_inT rfl rfl | exact rv_ic (by decide))
local macro_rules | `(tactic| decreasing_trivial) => `(tactic| first
  | exact rc_len rfl | exact rc_int | exact rc_intB | exact rc_abs | exact rc_tupleL | exact rc_tupleT | exact rc_list rfl | exact rc_max2 | exact rc_min2)
local macro_rules | `(tactic| trivial) => `(tactic| first
  | exact ep_int | exact ep_str | exact ep_bl | exact ep_non
  | exact ep_var rfl
  | (apply ep_op; trivial; trivial; get_elem_tactic_trivial)
  | (apply ep_cb; trivial; decreasing_trivial)
  | (apply ep_andF; trivial; rfl)
  | (apply ep_andV; trivial; intro _; trivial)
  | (apply ep_orT; trivial; rfl)
  | (apply ep_orV; trivial; intro _; trivial)
  | (apply ep_notV; trivial)
  | (apply ep_isN; trivial) | (apply ep_notN; trivial)
  | (apply ep_un; trivial; exact ru_i)
  | (apply ep_tup; trivial; exact Nat.le_of_ble_eq_true rfl) | (apply ep_lst; trivial; exact Nat.le_of_ble_eq_true rfl)
  | (apply ep_chain; trivial; trivial; get_elem_tactic_trivial; intro _; trivial; intro _; get_elem_tactic_trivial)
  | exact eps_nil | (apply eps_cons; trivial; trivial) | (apply eps_star; trivial; rfl; trivial)
  | (apply ef_ep; trivial)
  | (apply eb_B; trivial) | (apply eb_test; trivial)
  | (apply eb_andF; trivial; rfl)
  | (apply eb_and; trivial; intro _; trivial)
  | (apply eb_orT; trivial; rfl)
  | (apply eb_or; trivial; intro _; trivial)
  | (apply eb_not; trivial)
  | (apply ep_ifT; trivial; rfl; trivial) | (apply ep_ifF; trivial; rfl; trivial)
  | (apply ep_ifI; trivial; intro _; trivial; intro _; trivial) | (apply ep_ifL; trivial; intro _; trivial; intro _; trivial)
  | (apply ep_isi_int; trivial; first | rfl | assumption) | (apply ep_isi_bool; trivial; first | rfl | assumption) | (apply ep_isi_tuple; trivial; first | rfl | assumption) | (apply ep_isi_str; trivial; first | rfl | assumption)
  | (apply ep_isi_list; trivial; first | rfl | assumption) | (apply ep_isi_lt; trivial; first | rfl | assumption))
local macro_rules | `(tactic| trivial) => `(tactic| (apply ep_ixC rfl rfl; rfl))
local macro_rules | `(tactic| trivial) => `(tactic| (apply ca_is_integer; trivial; first | rfl | assumption))
local macro_rules | `(tactic| trivial) => `(tactic| (apply ca_is_between; trivial; first | rfl | assumption))
local macro_rules | `(tactic| trivial) => `(tactic| (apply ca_is_list; trivial; first | rfl | assumption))
local macro_rules | `(tactic| trivial) => `(tactic| (apply ca_check_clock; trivial))
local macro_rules | `(tactic| trivial) => `(tactic| (apply ca_first_state; trivial))
abbrev S_law_states (K : PySem.W.Frag) : Sp := PC K (fun x : Ck × List Int => [oP x.1, .lst (x.2.map .int)]) (fun x => wfK x.1 ∧ useOk x.2) (fun x => Rsts (x.1, x.2))
theorem pl__law_states (o : Ck) (us : List Int) (w : wfK o) (hu : useOk us) : SV K 0 (t__law_states K (S_law_run K)) (startE 5 [.v (oP o), .v (.lst (us.map .int))]) [] { nx := fun _ _ => False, rt := fun M d => Rsts (o, us) M d } := by
  unfold t__law_states
  apply sv_seq; apply sv_asg; apply ev_cell; apply en_lst; apply ea_ep
  · apply eps_cons; trivial; exact eps_nil
  refine ⟨Nat.le_of_ble_eq_true rfl, ?_⟩
  apply sv_seq; apply sv_for; apply ei_ip; apply eip_seq (p := .lst (us.map .int)); trivial; rfl
  refine ⟨fun i Γ M => ∃ (acc : List St2) (s : St2), M = [.l ((acc ++ [s]).map fun s => .v (sP s))] ∧ wfS o s ∧ acc.length = i ∧ acc ++ sts o s (us.drop i) = sts o (o.m, o.p) us ∧ ∃ x3 x4, Γ = [some (.v (oP o)), some (.v (.lst (us.map .int))), some (.c 0), x3, x4],
    ⟨[], (o.m, o.p), rfl, start_wf w, rfl, by simp, _, _, rfl⟩, ?_, ?_⟩
  · rintro i p Γ1 M1 hp ⟨acc, s, rfl, ws, hla, hs, x3, x4, rfl⟩
    rw [List.getElem?_map] at hp
    obtain ⟨u, hui, rfl⟩ : ∃ u, us[i]? = some u ∧ p = .int u := by
      cases e : us[i]? with
      | none => rw [e] at hp; cases hp
      | some u => rw [e] at hp; cases hp; exact ⟨u, rfl, rfl⟩
    have hi : i < us.length := (List.getElem?_eq_some_iff.mp hui).1
    have hu0 := hu.2 u (List.mem_of_getElem? hui)
    have hdrop : us.drop i = u :: us.drop (i + 1) := by
      rw [List.drop_eq_getElem_cons hi]
      congr 1
      exact (List.getElem?_eq_some_iff.mp hui).2
    rw [hdrop, sts_cons] at hs
    apply gv_name
    apply sv_seq; apply sv_set (p := soP (nxt o s u))
    · refine ep_op (ca__law_run (s := s) (u := u) (eps_cons (ep_var rfl) (eps_cons ?_ (eps_cons ep_int (eps_cons (ep_var rfl) eps_nil)))) w ws hu0) ep_int (rv_ixT rfl)
      refine ev_ixC (.inl rfl) (ev_var rfl ⟨0, rfl, ev_ep (ep_un ep_int ru_i) ⟨-1, _, .v (sP s), rfl, rfl, ?_, rfl, rfl⟩⟩)
      rw [List.map_append]
      exact atI_last
    cases e : nxt o s u with
    | none =>
      rw [e] at hs
      apply sv_seq; apply sv_ifT; (apply eb_B; exact ep_isN (p := .non) (ef_ep (ep_var rfl))); rfl
      apply sv_break
      apply sv_ret; apply ev_var rfl
      refine ⟨?_, rfl⟩
      show [MC.l _] = [MC.l _]
      rw [← hs]
    | some s' =>
      rw [e] at hs
      apply sv_seq; apply sv_ifF; (apply eb_B; exact ep_isN (p := sP s') (ef_ep (ep_var rfl))); rfl
      apply sv_next
      apply sv_drop; apply ev_bm; apply ev_var rfl; refine ⟨0, _, rfl, rfl, ?_⟩
      apply ea_ep; apply eps_cons; exact ep_var (p := sP s') rfl; exact eps_nil
      refine ⟨_, _, _, rfl, mv_append (by rw [List.length_map, List.length_append, hla]; have := hu.1; simp; omega), ?_⟩
      refine ni_refl ⟨acc ++ [s], s', ?_, nxt_wf w ws hu0.1 e, by rw [List.length_append, hla]; rfl, by rw [List.append_assoc]; exact hs, _, _, rfl⟩
      show [MC.l (_ ++ [_])] = [MC.l _]
      rw [List.map_append, List.map_append, List.map_append]
      rfl
  · rintro Γ1 M1 ⟨acc, s, rfl, ws, hla, hs, x3, x4, rfl⟩
    rw [List.length_map, List.drop_length] at hs
    apply sv_ret; apply ev_var rfl
    refine ⟨?_, rfl⟩
    show [MC.l _] = [MC.l _]
    rw [← hs]
    rfl
theorem ca__law_statesD (hh : EPs K t Γ M [oP o, .lst (us.map .int)]) (w : wfK o) (hu : useOk us) : Z.EP K (tCall (S_law_states K) [] E t) Γ M (.lst ((sts o (o.m, o.p) us).map sP)) := ev_callCP (ea_ep hh ⟨(o, us), rfl, ⟨w, hu⟩, fun cs d ⟨e1, e2⟩ => ⟨_, by
  subst e1 e2
  exact .c (Nat.zero_le _) rfl (fzs_map _), rfl, rfl⟩⟩)
abbrev S_law_clock_of (K : PySem.W.Frag) : Sp := PF K (fun o : Ck => [oP o]) wfC (fun o r => r = cP K o)
theorem pl__law_clock_of (o : Ck) (w : wfC o) : SV K 0 (t__law_clock_of K (SClock__init__ K)) (startE 1 [.v (oP o)]) [] (DR (· = cP K o)) := by
  unfold t__law_clock_of
  apply sv_retP; (apply ca_Clock (o := o); trivial; exact w); exact fz_is rfl
theorem ca__law_clock_of (hh : EPs K t Γ M [oP o]) (w : wfC o) : Z.EP K (tCall (S_law_clock_of K) [] E t) Γ M (cP K o) := ep_call hh o rfl w (fun _ h => h)
abbrev S_law_needed (K : PySem.W.Frag) : Sp := PF K (fun x : Kd × List Int => [kP x.1, .lst (x.2.map .int)]) (fun x => wfD x.1 ∧ useOk x.2) (fun x r => ∃ v : Int, r = .int v ∧ isNeed x.1 x.2 v)
theorem pl__law_needed (kd : Kd) (us : List Int) (w : wfD kd) (hu : useOk us) : SV K 0 (t__law_needed K (S_law_states K)) (startE 12 [.v (kP kd), .v (.lst (us.map .int))]) [] (DR (fun r => ∃ v : Int, r = .int v ∧ isNeed kd us v)) := by
  unfold t__law_needed
  have hl : us.length ≤ 99999 := by have := hu.1; omega
  have hl4 := hu.1
  have lenE : ∀ {Γ : Z.Env} {M : Mem}, Γ[1]? = some (some (.v (.lst (us.map .int)))) → Z.EP K (tCB (rLen K) (tCons (tVar 1) tNil)) Γ M (.int us.length) := fun g => ep_cb (eps_cons (ep_var g) eps_nil) (rc_len (n := us.length) (by simp [lenP]))
  have hb := w.b0; have hb1 := w.b1
  apply sv_seq; apply sv_tup; trivial; apply gv_tup rfl; apply gvs_cons; apply gv_name; apply gvs_cons; apply gv_name; apply gvs_cons; apply gv_name; apply gvs_nil
  apply sv_seq; apply sv_ifB; trivial
  · intro hp
    have hp : kd.p = 0 := of_decide_eq_true hp
    apply sv_seq; apply sv_tup; trivial; apply gv_tup rfl; apply gvs_cons; apply gv_name; apply gvs_cons; apply gv_name; apply gvs_nil
    apply sv_seq; apply sv_for; apply ei_ip; exact eip_range1 (eps_cons (lenE rfl) eps_nil) (by omega) (by omega)
    refine ⟨fun i Γ M => M = [] ∧ ∃ (m t : Int) (x7 : Option D), mx kd.b t i m (us.drop i) = mx kd.b 0 0 0 us ∧ Γ = [some (.v (kP kd)), some (.v (.lst (us.map .int))), some (.v (.int kd.b)), some (.v (.int kd.p)), some (.v (.int kd.l)), some (.v (.int m)), some (.v (.int t)), x7, none, none, none, none],
      ⟨rfl, 0, 0, _, rfl, rfl⟩, ?_, ?_⟩
    · rintro i p Γ1 M1 hp2 ⟨rfl, m, t, x7, hm, rfl⟩
      rw [Int.toNat_natCast] at hp2
      obtain ⟨hi, rfl⟩ := rangeP_at hp2
      rw [Int.zero_add]
      have hui : us[i]? = some us[i] := List.getElem?_eq_getElem hi
      have hdrop : us.drop i = us[i] :: us.drop (i + 1) := List.drop_eq_getElem_cons hi
      rw [hdrop] at hm
      generalize us[i] = u at hui hm
      apply gv_name
      apply sv_seq; apply sv_set (p := .int (t + u))
      · exact ep_op (ep_var rfl) (ep_op (ep_var rfl) (ep_var rfl) (rv_ixL (atI_nat (by rw [List.getElem?_map, hui]; rfl)))) rv_plus_i
      apply sv_set (p := .int (max m (t + u - i * kd.b)))
      · refine ep_cast (ep_cb (eps_cons (ep_var rfl) (eps_cons (ep_op (ep_var rfl) (ep_op (ep_var rfl) (ep_var rfl) (rv_ic (.inl ⟨by omega, by omega⟩))) rv_ii) eps_nil)) rc_max2) ?_
        rw [max_if]
      refine ni_refl ⟨rfl, _, _, _, ?_, rfl⟩
      rw [← hm]
      rfl
    · rintro Γ1 M1 ⟨rfl, m, t, x7, hm, rfl⟩
      rw [rangeP_len, Int.toNat_natCast, List.drop_length] at hm
      apply sv_retP; trivial
      have hm : m = mx kd.b 0 0 0 us := hm
      exact ⟨_, .v _, m, rfl, by rw [hm]; exact mx_need hp⟩
  intro hp
  have hp : ¬ kd.p = 0 := of_decide_eq_false hp
  have hp : 0 < kd.p := by have : 0 ≤ kd.p := w.p0; omega
  obtain ⟨kb, kp, kl⟩ := kd
  have hb0 : kb = 0 := w.pb hp
  subst hb0
  apply sv_next
  apply sv_seq; apply sv_par; apply ea_ep
  · exact eps_cons (ep_un ep_int ru_i) (eps_cons (ep_cb (eps_cons (ep_var rfl) eps_nil) rc_sum) eps_nil)
  refine ⟨_, _, rfl, ?_⟩
  have h0 := sum_nn (okn hu)
  have h1 := sum_top hu
  have h70 : us.sum - -1 ≤ (2 : Int) ^ (70 - 0) := by
    have e70 : (2 : Int) ^ (70 - 0) = 1180591620717411303424 := by decide
    rw [e70]
    omega
  apply sv_seq; apply sv_for; apply ei_ip; exact eip_range1 (eps_cons ep_int eps_nil) (by decide) (by decide)
  refine ⟨fun i Γ M => M = [] ∧ ∃ (lo hi : Int) (x10 x11 : Option D), -1 ≤ lo ∧ lo < hi ∧ hi - lo ≤ (2 : Int) ^ (70 - i) ∧ ok ⟨0, kp, kl⟩ us hi ∧ (lo = -1 ∨ ¬ ok ⟨0, kp, kl⟩ us lo) ∧ Γ = [some (.v (kP ⟨0, kp, kl⟩)), some (.v (.lst (us.map .int))), some (.v (.int 0)), some (.v (.int kp)), some (.v (.int kl)), none, none, none, some (.v (.int lo)), some (.v (.int hi)), x10, x11],
    ⟨rfl, -1, us.sum, _, _, Int.le_refl _, by omega, h70, ok_sum w (okn hu), .inl rfl, rfl⟩, ?_, ?_⟩
  · rintro i p Γ1 M1 hp2 ⟨rfl, lo, hi, x10, x11, g0, g1, g2, g3, g4, rfl⟩
    obtain ⟨hi70, rfl⟩ := rangeP_at hp2
    have hi70 : i < 70 := hi70
    have epow : (2 : Int) ^ (70 - i) = 2 ^ (70 - (i + 1)) * 2 := by
      rw [show 70 - i = (70 - (i + 1)) + 1 by omega, Int.pow_succ]
    have epos : (1 : Int) ≤ 2 ^ (70 - (i + 1)) := Int.pow_pos (by decide)
    rw [epow] at g2
    apply gv_name
    apply sv_ifB; trivial
    · intro hc
      have hc : 1 < hi - lo := of_decide_eq_true hc
      have hd : (2 : Int) * ((lo + hi) / 2) ≤ lo + hi ∧ lo + hi < 2 * ((lo + hi) / 2) + 2 := by omega
      apply sv_seq; apply sv_set; (apply ep_op; trivial; trivial; exact rv_ic ⟨by decide, by decide⟩)
      generalize (lo + hi) / 2 = mid at hd ⊢
      have hm : 0 ≤ mid := by omega
      refine sv_ifB (b := decide (((sts (at_ ⟨0, kp, kl⟩ mid) (mid, kp) us).length : Int) = (us.length : Int) + 1)) ?_ ?_ ?_
      · apply eb_test; apply ep_op
        · apply ep_cb
          · exact eps_cons (ca__law_statesD (o := at_ ⟨0, kp, kl⟩ mid) (us := us) (eps_cons (by trivial) (eps_cons (ep_var rfl) eps_nil)) (w.at hm) hu) eps_nil
          · exact rc_len (n := (sts (at_ ⟨0, kp, kl⟩ mid) (mid, kp) us).length) (by simp [lenP])
        · exact ep_op (lenE rfl) ep_int rv_plus_i
        · exact rv_eq_ii
      · intro hb
        have hb := of_decide_eq_true hb
        have hok : ok ⟨0, kp, kl⟩ us mid := (en_len (at_ ⟨0, kp, kl⟩ mid) us (mid, kp)).mpr (by omega)
        apply sv_set; trivial
        exact ni_refl ⟨rfl, lo, mid, _, _, g0, by omega, by omega, hok, g4, rfl⟩
      · intro hb
        have hb := of_decide_eq_false hb
        have hok : ¬ ok ⟨0, kp, kl⟩ us mid := fun z => by
          have := (en_len (at_ ⟨0, kp, kl⟩ mid) us (mid, kp)).mp z
          omega
        apply sv_set; trivial
        exact ni_refl ⟨rfl, mid, hi, _, _, by omega, by omega, by omega, g3, .inr hok, rfl⟩
    · intro hc
      have hc : ¬ 1 < hi - lo := of_decide_eq_false hc
      apply sv_next
      exact ni_refl ⟨rfl, lo, hi, _, _, g0, g1, by omega, g3, g4, rfl⟩
  · rintro Γ1 M1 ⟨rfl, lo, hi, x10, x11, g0, g1, g2, g3, g4, rfl⟩
    rw [rangeP_len] at g2
    have g2 : hi - lo ≤ 1 := g2
    apply sv_retP; trivial
    have e : hi = lo + 1 := by omega
    subst e
    refine ⟨_, .v _, lo + 1, rfl, by omega, g3, ?_⟩
    rw [Int.add_sub_cancel]
    rcases g4 with g4 | g4
    · exact .inl (by omega)
    · exact .inr g4
theorem ev_needed (hh : EPs K t Γ M [kP kd, .lst (us.map .int)]) (w : wfD kd) (hu : useOk us) (hΦ : ∀ v, isNeed kd us v → Φ M (.v (.int v))) : EV K (tCall (S_law_needed K) [] E t) Γ M Φ := ev_call (ea_ep hh ⟨(kd, us), rfl, ⟨w, hu⟩, fun p ⟨v, e, h⟩ => by rw [e]; exact hΦ v h⟩)
theorem ca__law_needed {v : Int} (hh : EPs K t Γ M [kP kd, .lst (us.map .int)]) (w : wfD kd) (hu : useOk us) (hv : isNeed kd us v) : Z.EP K (tCall (S_law_needed K) [] E t) Γ M (.int v) := ep_call hh (kd, us) rfl ⟨w, hu⟩ (fun p ⟨v', e, h⟩ => by rw [e, need_one w h hv])
abbrev S_law_needed_told (K : PySem.W.Frag) : Sp := PF K (fun x : Kd × List Int × Bool => [kP x.1, .lst (x.2.1.map .int), .bl x.2.2]) (fun x => wfD x.1 ∧ useOk x.2.1) (fun x r => ∃ v : Int, r = .int v ∧ isNeed x.1 x.2.1 v)
theorem pl__law_needed_told (kd : Kd) (us : List Int) (nm : Bool) (w : wfD kd) (hu : useOk us) : SV K 0 (t__law_needed_told K (Sneeded_main K)) (startE 3 [.v (kP kd), .v (.lst (us.map .int)), .v (.bl nm)]) [] (DR (fun r => ∃ v : Int, r = .int v ∧ isNeed kd us v)) := by
  unfold t__law_needed_told
  obtain ⟨v, hv⟩ : ∃ v, isNeed kd us v := exNeed w hu
  apply sv_seq; apply sv_ifB; trivial
  · intro _
    apply sv_retP
    · exact cn_needed (r := false) (v := v) (eps_cons (ep_var rfl) (by trivial)) w hu hv
    · exact ⟨_, .v _, v, rfl, hv⟩
  · intro _
    apply sv_next; apply sv_retP
    · exact ca_needed (r := true) (v := v) (kd := kd) (us := us) (eps_cons (by trivial) (eps_cons (by trivial) (eps_cons (by trivial) (eps_cons (ep_cb (eps_cons (ep_var rfl) eps_nil) rc_tupleL) eps_nil)))) w hu hv
    · exact ⟨_, .v _, v, rfl, hv⟩
theorem ca__law_needed_told {nm : Bool} {v : Int} (hh : EPs K t Γ M [kP kd, .lst (us.map .int), .bl nm]) (w : wfD kd) (hu : useOk us) (hv : isNeed kd us v) : Z.EP K (tCall (S_law_needed_told K) [] E t) Γ M (.int v) := ep_call hh (kd, us, nm) rfl ⟨w, hu⟩ (fun p ⟨v', e, h⟩ => by rw [e, need_one w h hv])
end
end R78
set_option maxRecDepth 100000
set_option maxHeartbeats 4000000
namespace R78
open PySem PySem.Spec PyProof.Rows L2 Z
theorem top_bd {o : Ck} (w : wfC o) : 0 ≤ o.p * o.l ∧ o.m + o.p * o.l ≤ 1100000 := by
  have w3 := w.p0; have w4 := w.p1; have w5 := w.m0; have w6 := w.m1; have w7 := w.l1
  have w8 : 0 ≤ o.l := by
    by_cases h : 0 < o.p
    · have := w.l0 h; omega
    · have := w.lp (by omega); omega
  have hH1 : o.p * o.l ≤ 100 * 10000 := Int.mul_le_mul w4 w7 w8 (by decide)
  have hH0 : 0 ≤ o.p * o.l := Int.mul_nonneg w3 w8
  omega
section
variable {K : PySem.W.Frag} {Γ : Z.Env} {M : Mem} {E : XK} {t : TA} {a b c d i j h k u : Int} {r : Bool} {p q : P} {ps qs : List P} {te : TE} {w : Str} {o o0 o1 : Ck} {s s0 s1 : St2} {ns us : List Int} {Φ : Mem → D → Prop} {kd : Kd}
local macro_rules | `(tactic| get_elem_tactic_trivial) => `(tactic| first
  | exact rv_plus_i | exact rv_ii | exact rv_ib | exact rv_eq_ii | exact rv_ne_ii | exact rv_eq_ss | exact rv_ne_ss | exact rv_eq_bb | exact rv_ne_bb | exact rv_ixT rfl | exact rv_ixL rfl
  | exact rv_plus_t (Nat.le_of_ble_eq_true rfl) | exact rv_plus_l (Nat.le_of_ble_eq_true rfl) | exact rv_plus_s (Nat.le_of_ble_eq_true rfl) | exact rv_isB | exact rv_inL rfl rfl | exact rv_inT rfl rfl | exact rv_ic (by decide))
local macro_rules | `(tactic| decreasing_trivial) => `(tactic| first
  | exact rc_len rfl | exact rc_int | exact rc_intB | exact rc_abs | exact rc_tupleL | exact rc_tupleT | exact rc_list rfl | exact rc_max2 | exact rc_min2)
local macro_rules | `(tactic| trivial) => `(tactic| first
  | exact ep_int | exact ep_str | exact ep_bl | exact ep_non
  | exact ep_var rfl
  | (apply ep_op; trivial; trivial; get_elem_tactic_trivial)
  | (apply ep_cb; trivial; decreasing_trivial)
  | (apply ep_andF; trivial; rfl)
  | (apply ep_andV; trivial; intro _; trivial)
  | (apply ep_orT; trivial; rfl)
  | (apply ep_orV; trivial; intro _; trivial)
  | (apply ep_notV; trivial)
  | (apply ep_isN; trivial) | (apply ep_notN; trivial)
  | (apply ep_un; trivial; exact ru_i)
  | (apply ep_tup; trivial; exact Nat.le_of_ble_eq_true rfl) | (apply ep_lst; trivial; exact Nat.le_of_ble_eq_true rfl)
  | (apply ep_chain; trivial; trivial; get_elem_tactic_trivial; intro _; trivial; intro _; get_elem_tactic_trivial)
  | exact eps_nil | (apply eps_cons; trivial; trivial) | (apply eps_star; trivial; rfl; trivial)
  | (apply ef_ep; trivial)
  | (apply eb_B; trivial) | (apply eb_test; trivial)
  | (apply eb_andF; trivial; rfl)
  | (apply eb_and; trivial; intro _; trivial)
  | (apply eb_orT; trivial; rfl)
  | (apply eb_or; trivial; intro _; trivial)
  | (apply eb_not; trivial)
  | (apply ep_ifT; trivial; rfl; trivial) | (apply ep_ifF; trivial; rfl; trivial)
  | (apply ep_ifI; trivial; intro _; trivial; intro _; trivial) | (apply ep_ifL; trivial; intro _; trivial; intro _; trivial)
  | (apply ep_isi_int; trivial; first | rfl | assumption) | (apply ep_isi_bool; trivial; first | rfl | assumption) | (apply ep_isi_tuple; trivial; first | rfl | assumption) | (apply ep_isi_str; trivial; first | rfl | assumption)
  | (apply ep_isi_list; trivial; first | rfl | assumption) | (apply ep_isi_lt; trivial; first | rfl | assumption))
local macro_rules | `(tactic| trivial) => `(tactic| (apply ep_ixC rfl rfl; rfl))
local macro_rules | `(tactic| trivial) => `(tactic| (apply ca_is_integer; trivial; first | rfl | assumption))
local macro_rules | `(tactic| trivial) => `(tactic| (apply ca_is_between; trivial; first | rfl | assumption))
local macro_rules | `(tactic| trivial) => `(tactic| (apply ca_is_list; trivial; first | rfl | assumption))
local macro_rules | `(tactic| trivial) => `(tactic| (apply ca_check_clock; trivial))
local macro_rules | `(tactic| trivial) => `(tactic| (apply ca_first_state; trivial))
/-- a number drawn -/
theorem ev_take {x kc n : Nat} {c : MC} {m : Int} (e : Γ[x]? = some (some (.c kc))) (hc : M[kc]? = some c) (hb : Bx n c) (hm : 0 < m ∧ m < 1073741824) {te : TE} (hh : Z.EP K te Γ M (.int m)) (hn : n + 1 ≤ 1000000000)
    (hr : ∀ i c', 0 ≤ i → i < m → Bx (n + 1) c' → Φ (M.set kc c') (.v (.int i))) : EV K (tCall (S_law_take K) [] E (tCons (tVar x) (tCons te tNil))) Γ M Φ :=
  ev_bx e (eps_cons hh eps_nil) hc hb m rfl hm hn fun p c' ⟨i, h0, h1, ep⟩ hb' => by subst ep; exact hr i c' h0 h1 hb'
abbrev S_law_clock (K : PySem.W.Frag) : Sp := BF K (fun _ : Unit => []) (fun _ => True) (fun _ => 10) (fun _ r => ∃ o, wfC o ∧ r = oP o)
theorem pl__law_clock (n : Nat) (c : MC) (hb : Bx n c) (hn : n + 10 ≤ 1000000000) : SV K 1 (t__law_clock K (S_law_take K) (S_law_pick K)) (startE 3 [.c 0]) [c]
    { nx := fun _ M => (∃ o, wfC o ∧ P.non = oP o) ∧ ∃ c' M', M = c' :: M' ∧ Bx (n + 10) c', rt := fun M d => ∃ p, Fz 1 M d p ∧ (∃ o, wfC o ∧ p = oP o) ∧ ∃ c' M', M = c' :: M' ∧ Bx (n + 10) c' } := by
  unfold t__law_clock
  apply sv_seq; apply sv_asg; refine ev_take rfl rfl hb ⟨by decide, by decide⟩ ep_int (by omega) fun way c1 hw0 hw1 hb1 => ?_
  apply sv_seq; apply sv_asg; apply ev_bxD rfl; apply ea_cons; apply ev_new; apply en_lst
  iterate 5 (apply ea_cons; apply ev_ep; trivial)
  apply ea_cons; apply ev_op; apply ev_ep; trivial; refine ⟨_, rfl, ?_⟩
  refine ev_take rfl rfl hb1 ⟨by decide, by decide⟩ ep_int (by omega) fun i1 c2 h10 h11 hb2 => ⟨_, rfl, _, rv_plus_i, ?_⟩
  apply ea_cons; refine ev_take rfl rfl hb2 ⟨by decide, by decide⟩ ep_int (by omega) fun i2 c3 h20 h21 hb3 => ?_
  apply ea_nil
  refine ⟨Nat.le_of_ble_eq_true rfl, ([0, 1, 7, 60, 100000, 1 + i1, i2] : List Int).map .int, rfl, ?_⟩
  apply ea_nil
  refine ⟨c3, n + 1 + 1 + 1, (false, ([0, 1, 7, 60, 100000, 1 + i1, i2] : List Int).map .int), rfl, rfl, hb3, by show n + 1 + 1 + 1 + 1 ≤ 1000000000; omega, ⟨Nat.succ_pos _, Nat.le_of_ble_eq_true rfl⟩, ?_⟩
  intro p c4 hp hb4
  obtain ⟨m, hm, rfl⟩ := in_ints hp
  have hm2 : 0 ≤ m ∧ m ≤ 100000 := by
    simp only [List.mem_cons, List.not_mem_nil, or_false] at hm
    omega
  have hb4 : Bx (n + 4) c4 := hb4
  apply sv_seq; apply sv_ifB; trivial
  · intro _
    apply sv_retP; trivial
    exact ⟨_, .v _, ⟨⟨m, 0, 0, 0⟩, ⟨⟨hm2.1, Int.le_refl 0, by show (0 : Int) ≤ 10000; decide, Int.le_refl 0, by show (0 : Int) ≤ 100; decide, fun h => rfl, fun h => absurd h (by show ¬ (0 : Int) < 0; decide), by show (0 : Int) ≤ 10000; decide, fun _ => rfl⟩, hm2.2⟩, rfl⟩, c4, [], rfl, Bx.mono hb4 (by omega)⟩
  intro _
  apply sv_next
  apply sv_seq; apply sv_ifB; trivial
  · intro _
    apply sv_ret; apply ev_tup; apply ea_cons; apply ev_ep; trivial; apply ea_cons
    apply ev_bxD rfl; apply ea_cons; apply ev_new; apply en_lst
    iterate 4 (apply ea_cons; apply ev_ep; trivial)
    apply ea_cons; apply ev_op; apply ev_ep; trivial; refine ⟨_, rfl, ?_⟩
    refine ev_take rfl rfl hb4 ⟨by decide, by decide⟩ ep_int (by omega) fun i1 c5 h10 h11 hb5 => ⟨_, rfl, _, rv_plus_i, ?_⟩
    apply ea_cons; apply ev_op; apply ev_ep; trivial; refine ⟨_, rfl, ?_⟩
    refine ev_take rfl rfl hb5 ⟨by decide, by decide⟩ ep_int (by omega) fun i2 c6 h20 h21 hb6 => ⟨_, rfl, _, rv_plus_i, ?_⟩
    apply ea_nil
    refine ⟨Nat.le_of_ble_eq_true rfl, ([1, 2, 10, 10000, 1 + i1, 1 + i2] : List Int).map .int, rfl, ?_⟩
    apply ea_nil
    refine ⟨c6, n + 4 + 1 + 1, (false, ([1, 2, 10, 10000, 1 + i1, 1 + i2] : List Int).map .int), rfl, rfl, hb6, by show n + 4 + 1 + 1 + 1 ≤ 1000000000; omega, ⟨Nat.succ_pos _, Nat.le_of_ble_eq_true rfl⟩, ?_⟩
    intro p c7 hp hb7
    obtain ⟨b, hb, rfl⟩ := in_ints hp
    have hbb : 0 ≤ b ∧ b ≤ 10000 := by
      simp only [List.mem_cons, List.not_mem_nil, or_false] at hb
      omega
    apply ea_cons; apply ev_ep; trivial; apply ea_cons; apply ev_ep; trivial; apply ea_nil
    exact ⟨iP4 ⟨m, b, 0, 0⟩, rfl, Nat.le_of_ble_eq_true rfl, _, .v _, ⟨⟨m, b, 0, 0⟩, ⟨⟨hm2.1, hbb.1, hbb.2, Int.le_refl 0, by show (0 : Int) ≤ 100; decide, fun h => absurd h (by show ¬ (0 : Int) < 0; decide), fun h => absurd h (by show ¬ (0 : Int) < 0; decide), by show (0 : Int) ≤ 10000; decide, fun _ => rfl⟩, hm2.2⟩, rfl⟩, c7, [], rfl, Bx.mono hb7 (by show n + 4 + 1 + 1 + 1 ≤ n + 10; omega)⟩
  · intro _
    apply sv_next
    apply sv_ret; apply ev_tup; apply ea_cons; apply ev_ep; trivial; apply ea_cons; apply ev_ep; trivial; apply ea_cons
    apply ev_bxD rfl; apply ea_cons; apply ev_new; apply en_lst
    iterate 5 (apply ea_cons; apply ev_ep; trivial)
    apply ea_cons; apply ev_op; apply ev_ep; trivial; refine ⟨_, rfl, ?_⟩
    refine ev_take rfl rfl hb4 ⟨by decide, by decide⟩ ep_int (by omega) fun i1 c5 h10 h11 hb5 => ⟨_, rfl, _, rv_plus_i, ?_⟩
    apply ea_nil
    refine ⟨Nat.le_of_ble_eq_true rfl, ([1, 2, 3, 5, 100, 1 + i1] : List Int).map .int, rfl, ?_⟩
    apply ea_nil
    refine ⟨c5, n + 4 + 1, (false, ([1, 2, 3, 5, 100, 1 + i1] : List Int).map .int), rfl, rfl, hb5, by show n + 4 + 1 + 1 ≤ 1000000000; omega, ⟨Nat.succ_pos _, Nat.le_of_ble_eq_true rfl⟩, ?_⟩
    intro p c6 hp hb6
    obtain ⟨x, hx, rfl⟩ := in_ints hp
    have hxx : 1 ≤ x ∧ x ≤ 100 := by
      simp only [List.mem_cons, List.not_mem_nil, or_false] at hx
      omega
    have hb6 : Bx (n + 6) c6 := hb6
    apply ea_cons
    apply ev_bxD rfl; apply ea_cons; apply ev_new; apply en_lst
    iterate 5 (apply ea_cons; apply ev_ep; trivial)
    apply ea_cons; apply ev_op; apply ev_ep; trivial; refine ⟨_, rfl, ?_⟩
    refine ev_take rfl rfl hb6 ⟨by decide, by decide⟩ ep_int (by omega) fun i1 c7 h10 h11 hb7 => ⟨_, rfl, _, rv_plus_i, ?_⟩
    apply ea_cons; apply ev_op; apply ev_ep; trivial; refine ⟨_, rfl, ?_⟩
    refine ev_take rfl rfl hb7 ⟨by decide, by decide⟩ ep_int (by omega) fun i2 c8 h20 h21 hb8 => ⟨_, rfl, _, rv_plus_i, ?_⟩
    apply ea_nil
    refine ⟨Nat.le_of_ble_eq_true rfl, ([1, 2, 7, 30, 10000, 1 + i1, 1 + i2] : List Int).map .int, rfl, ?_⟩
    apply ea_nil
    refine ⟨c8, n + 6 + 1 + 1, (false, ([1, 2, 7, 30, 10000, 1 + i1, 1 + i2] : List Int).map .int), rfl, rfl, hb8, by show n + 6 + 1 + 1 + 1 ≤ 1000000000; omega, ⟨Nat.succ_pos _, Nat.le_of_ble_eq_true rfl⟩, ?_⟩
    intro p c9 hp hb9
    obtain ⟨y, hy, rfl⟩ := in_ints hp
    have hyy : 1 ≤ y ∧ y ≤ 10000 := by
      simp only [List.mem_cons, List.not_mem_nil, or_false] at hy
      omega
    apply ea_nil
    exact ⟨iP4 ⟨m, 0, x, y⟩, rfl, Nat.le_of_ble_eq_true rfl, _, .v _, ⟨⟨m, 0, x, y⟩, ⟨⟨hm2.1, Int.le_refl 0, by show (0 : Int) ≤ 10000; decide, by show 0 ≤ x; omega, hxx.2, fun _ => rfl, fun _ => hyy.1, hyy.2, fun h => by have h : x = 0 := h; omega⟩, hm2.2⟩, rfl⟩, c9, [], rfl, Bx.mono hb9 (by show n + 6 + 1 + 1 + 1 ≤ n + 10; omega)⟩
abbrev nearOk (ns : List Int) : Prop := 0 < ns.length ∧ ns.length ≤ 20 ∧ ∀ n ∈ ns, 0 ≤ n ∧ n ≤ 1100001
abbrev S_law_uses_near (K : PySem.W.Frag) : Sp := PF K (fun o : Ck => [oP o]) wfC (fun o r => ∃ ns, nearOk ns ∧ r = .lst (ns.map .int))
theorem pl__law_uses_near (o : Ck) (w : wfC o) : SV K 0 (t__law_uses_near K) (startE 3 [.v (oP o)]) [] (DR (fun r => ∃ ns, nearOk ns ∧ r = .lst (ns.map .int))) := by
  unfold t__law_uses_near
  have w1 := w.b0; have w2 := w.b1; have w3 := w.p0; have w4 := w.p1; have w5 := w.m0; have w6 := w.m1
  have htop2 := top_bd w
  have fin : ∀ ns : List Int, nearOk ns → SV K 0 (tRet (tLc (iSeq K (tVar 1)) (gName 2) (tTest (tOp (rI0 fun i j => .bl (decide (j ≤ i))) (tVar 2) (tC (.int 0)))) (tVar 2) [2])) [some (.v (oP o)), some (.c 0), none] [.l ((ns.map P.int).map .v)] (DR (fun r => ∃ ns, nearOk ns ∧ r = .lst (ns.map .int))) := by
    intro ns hns
    refine sv_nrm (nrm_freeze (M0 := []) (ps := ns.map P.int) (Γ' := [some (.v (oP o)), some (.v (.lst (ns.map P.int))), none]) (Nat.le_refl _) rfl rfl fun i d e => ?_) ?_
    · match i, e with
      | 0, e => cases e; exact .inl ⟨rfl, rfl⟩
      | 1, e => cases e; exact .inr ⟨rfl, rfl⟩
      | 2, e => cases e
      | i + 3, e => cases e
    apply sv_retP (p := .lst (ns.map .int))
    · refine ep_is (ep_lcm (tgt_name (by decide)) (items := ns.map P.int) (eip_seq (ep_var rfl) rfl) (by rw [List.length_map]; have := hns.2.1; omega) (fun _ => true) id ?_) ?_
      · intro i p hp
        obtain ⟨n, hn, rfl⟩ := List.mem_map.mp (List.mem_of_getElem? hp)
        apply gv_name
        exact ⟨eb_is (eb_test (ep_op (ep_var rfl) ep_int rv_ib)) (decide_eq_true (hns.2.2 n hn).1), fun _ => ep_var rfl⟩
      · rw [List.filter_eq_self.mpr (fun _ _ => rfl), List.map_id]
    · exact ⟨_, .v _, ns, hns, rfl⟩
  apply sv_seq; apply sv_asg; apply ev_cell; apply en_lst; apply ea_ep
  · apply eps_cons; trivial; apply eps_cons; trivial; apply eps_cons; trivial; apply eps_cons; trivial; apply eps_cons; trivial; apply eps_cons; trivial; exact eps_nil
  refine ⟨Nat.le_of_ble_eq_true rfl, ?_⟩
  apply sv_seq; apply sv_ifB; trivial
  · intro hp
    have hp : 0 < o.p := of_decide_eq_true hp
    have hl0 := w.l0 hp; have hl1 := w.l1
    apply sv_drop; apply ev_bm; apply ev_var rfl; refine ⟨0, _, rfl, rfl, ?_⟩
    apply ea_ep; apply eps_cons (p := .lst (([o.l, o.l + 1, 2 * o.l, 2 * o.l + 1, o.m + o.l, o.m + o.p * o.l, o.m + o.p * o.l + 1] : List Int).map .int))
    · have tl : Z.EP K (tOp (rI CMul fun i j => .int (i * j)) (tC (.int 2)) (tOp (rIx K) (tVar 0) (tC (.int 3)))) [some (.v (oP o)), some (.c 0), none] [.l (([.int 0, .int 1, .int o.m, .int (o.m + 1), .int o.b, .int (o.b + 1)] : List P).map .v)] (.int (2 * o.l)) := ep_op ep_int (ep_op (ep_var rfl) ep_int (rv_ixT rfl)) (rv_ic (.inl ⟨by decide, by decide⟩))
      have tm : Z.EP K (tOp (rPlus K) (tOp (rIx K) (tVar 0) (tC (.int 0))) (tOp (rI CMul fun i j => .int (i * j)) (tOp (rIx K) (tVar 0) (tC (.int 2))) (tOp (rIx K) (tVar 0) (tC (.int 3))))) [some (.v (oP o)), some (.c 0), none] [.l (([.int 0, .int 1, .int o.m, .int (o.m + 1), .int o.b, .int (o.b + 1)] : List P).map .v)] (.int (o.m + o.p * o.l)) := ep_op (ep_op (ep_var rfl) ep_int (rv_ixT rfl)) (ep_op (ep_op (ep_var rfl) ep_int (rv_ixT rfl)) (ep_op (ep_var rfl) ep_int (rv_ixT rfl)) (rv_ic (.inl ⟨by omega, by omega⟩))) rv_plus_i
      apply ep_lst
      · apply eps_cons; trivial; apply eps_cons; trivial; apply eps_cons; exact tl; apply eps_cons; exact ep_op tl ep_int rv_plus_i; apply eps_cons; trivial; apply eps_cons; exact tm; apply eps_cons; exact ep_op tm ep_int rv_plus_i; exact eps_nil
      · exact Nat.le_of_ble_eq_true rfl
    · exact eps_nil
    refine ⟨_, _, _, rfl, mv_extend (Nat.le_of_ble_eq_true rfl), ?_⟩
    refine fin ([0, 1, o.m, o.m + 1, o.b, o.b + 1] ++ [o.l, o.l + 1, 2 * o.l, 2 * o.l + 1, o.m + o.l, o.m + o.p * o.l, o.m + o.p * o.l + 1]) ⟨Nat.succ_pos _, Nat.le_of_ble_eq_true rfl, fun n hn => ?_⟩
    simp only [List.cons_append, List.nil_append, List.mem_cons, List.not_mem_nil, or_false] at hn
    omega
  · intro _
    apply sv_next
    refine fin [0, 1, o.m, o.m + 1, o.b, o.b + 1] ⟨Nat.succ_pos _, Nat.le_of_ble_eq_true rfl, fun n hn => ?_⟩
    simp only [List.mem_cons, List.not_mem_nil, or_false] at hn
    omega
end
end R78
set_option maxRecDepth 100000
set_option maxHeartbeats 4000000
namespace R78
open PySem PySem.Spec PyProof.Rows L2 Z
theorem okds_ints {n : Nat} : ∀ us : List Int, okds n (us.map P.int) = true
  | [] => rfl
  | u :: us => by
    show (okd n (.int u) && okds n (us.map P.int)) = true
    rw [okds_ints us]
    cases n <;> rfl
theorem pEq_nil {us : List Int} : pEq (.lst (us.map .int)) (.lst []) = decide (us = []) := by
  cases us with
  | nil => rfl
  | cons u us => rfl
theorem ints_of {Pr : Int → Prop} : ∀ {qs : List P}, (∀ q ∈ qs, ∃ z : Int, q = .int z ∧ Pr z) → ∃ us : List Int, qs = us.map .int ∧ ∀ u ∈ us, Pr u
  | [], _ => ⟨[], rfl, fun u h => by simp at h⟩
  | q :: qs, h => by
    obtain ⟨z, e, hz⟩ := h q List.mem_cons_self
    obtain ⟨us, e2, hu⟩ := ints_of (qs := qs) fun x hx => h x (List.mem_cons_of_mem _ hx)
    refine ⟨z :: us, by rw [e, e2]; rfl, fun u hm => ?_⟩
    rcases List.mem_cons.mp hm with h | h
    · rw [h]; exact hz
    · exact hu u h
section
variable {K : PySem.W.Frag} {Γ : Z.Env} {M : Mem} {E : XK} {t : TA} {a b c d i j h k u : Int} {r : Bool} {p q : P} {ps qs : List P} {te : TE} {w : Str} {o o0 o1 : Ck} {s s0 s1 : St2} {ns us : List Int} {Φ : Mem → D → Prop} {kd : Kd}
local macro_rules | `(tactic| get_elem_tactic_trivial) => `(tactic| first
  | exact rv_plus_i | exact rv_ii | exact rv_ib | exact rv_eq_ii | exact rv_ne_ii | exact rv_eq_ss | exact rv_ne_ss | exact rv_eq_bb | exact rv_ne_bb | exact rv_ixT rfl | exact rv_ixL rfl
  | exact rv_plus_t (Nat.le_of_ble_eq_true rfl) | exact rv_plus_l (Nat.le_of_ble_eq_true rfl) | exact rv_plus_s (Nat.le_of_ble_eq_true rfl) | exact rv_isB | exact rv_inL rfl rfl | exact rv_inT rfl rfl | exact rv_ic (by decide))
local macro_rules | `(tactic| decreasing_trivial) => `(tactic| first
  | exact rc_len rfl | exact rc_int | exact rc_intB | exact rc_abs | exact rc_tupleL | exact rc_tupleT | exact rc_list rfl | exact rc_max2 | exact rc_min2)
local macro_rules | `(tactic| trivial) => `(tactic| first
  | exact ep_int | exact ep_str | exact ep_bl | exact ep_non
  | exact ep_var rfl
  | (apply ep_op; trivial; trivial; get_elem_tactic_trivial)
  | (apply ep_cb; trivial; decreasing_trivial)
  | (apply ep_andF; trivial; rfl)
  | (apply ep_andV; trivial; intro _; trivial)
  | (apply ep_orT; trivial; rfl)
  | (apply ep_orV; trivial; intro _; trivial)
  | (apply ep_notV; trivial)
  | (apply ep_isN; trivial) | (apply ep_notN; trivial)
  | (apply ep_un; trivial; exact ru_i)
  | (apply ep_tup; trivial; exact Nat.le_of_ble_eq_true rfl) | (apply ep_lst; trivial; exact Nat.le_of_ble_eq_true rfl)
  | (apply ep_chain; trivial; trivial; get_elem_tactic_trivial; intro _; trivial; intro _; get_elem_tactic_trivial)
  | exact eps_nil | (apply eps_cons; trivial; trivial) | (apply eps_star; trivial; rfl; trivial)
  | (apply ef_ep; trivial)
  | (apply eb_B; trivial) | (apply eb_test; trivial)
  | (apply eb_andF; trivial; rfl)
  | (apply eb_and; trivial; intro _; trivial)
  | (apply eb_orT; trivial; rfl)
  | (apply eb_or; trivial; intro _; trivial)
  | (apply eb_not; trivial)
  | (apply ep_ifT; trivial; rfl; trivial) | (apply ep_ifF; trivial; rfl; trivial)
  | (apply ep_ifI; trivial; intro _; trivial; intro _; trivial) | (apply ep_ifL; trivial; intro _; trivial; intro _; trivial)
  | (apply ep_isi_int; trivial; first | rfl | assumption) | (apply ep_isi_bool; trivial; first | rfl | assumption) | (apply ep_isi_tuple; trivial; first | rfl | assumption) | (apply ep_isi_str; trivial; first | rfl | assumption)
  | (apply ep_isi_list; trivial; first | rfl | assumption) | (apply ep_isi_lt; trivial; first | rfl | assumption))
local macro_rules | `(tactic| trivial) => `(tactic| (apply ep_ixC rfl rfl; rfl))
local macro_rules | `(tactic| trivial) => `(tactic| (apply ca_is_integer; trivial; first | rfl | assumption))
local macro_rules | `(tactic| trivial) => `(tactic| (apply ca_is_between; trivial; first | rfl | assumption))
local macro_rules | `(tactic| trivial) => `(tactic| (apply ca_is_list; trivial; first | rfl | assumption))
local macro_rules | `(tactic| trivial) => `(tactic| (apply ca_check_clock; trivial))
local macro_rules | `(tactic| trivial) => `(tactic| (apply ca_first_state; trivial))
theorem ev_clock {x kc n : Nat} {c : MC} (e : Γ[x]? = some (some (.c kc))) (hc : M[kc]? = some c) (hb : Bx n c) (hn : n + 10 ≤ 1000000000) (hr : ∀ o c', wfC o → Bx (n + 10) c' → Φ (M.set kc c') (.v (oP o))) : EV K (tCall (S_law_clock K) [] E (tCons (tVar x) tNil)) Γ M Φ :=
  ev_bx e eps_nil hc hb () rfl True.intro hn fun p c' ⟨o, w, ep⟩ hb' => by subst ep; exact hr o c' w hb'
abbrev S_law_kind (K : PySem.W.Frag) : Sp := BF K (fun _ : Unit => []) (fun _ => True) (fun _ => 10) (fun _ r => ∃ kd, wfD kd ∧ r = kP kd)
theorem pl__law_kind (n : Nat) (c : MC) (hb : Bx n c) (hn : n + 10 ≤ 1000000000) : SV K 1 (t__law_kind K (S_law_clock K)) (startE 2 [.c 0]) [c]
    { nx := fun _ M => (∃ kd, wfD kd ∧ P.non = kP kd) ∧ ∃ c' M', M = c' :: M' ∧ Bx (n + 10) c', rt := fun M d => ∃ p, Fz 1 M d p ∧ (∃ kd, wfD kd ∧ p = kP kd) ∧ ∃ c' M', M = c' :: M' ∧ Bx (n + 10) c' } := by
  unfold t__law_kind
  apply sv_seq; apply sv_asg; refine ev_clock rfl rfl hb hn fun o c1 w hb1 => ?_
  apply sv_retP (p := kP ⟨o.b, o.p, o.l⟩)
  · exact ep_cast (ep_sl (ep_var rfl) (eo_some ep_int) eo_none slv_t) rfl
  · exact ⟨_, .v _, ⟨⟨o.b, o.p, o.l⟩, ⟨Int.le_refl 0, w.b0, w.b1, w.p0, w.p1, w.pb, w.l0, w.l1, w.lp⟩, rfl⟩, c1, [], rfl, hb1⟩
theorem ev_kind {x kc n : Nat} {c : MC} (e : Γ[x]? = some (some (.c kc))) (hc : M[kc]? = some c) (hb : Bx n c) (hn : n + 10 ≤ 1000000000) (hr : ∀ kd c', wfD kd → Bx (n + 10) c' → Φ (M.set kc c') (.v (kP kd))) : EV K (tCall (S_law_kind K) [] E (tCons (tVar x) tNil)) Γ M Φ :=
  ev_bx e eps_nil hc hb () rfl True.intro hn fun p c' ⟨o, w, ep⟩ hb' => by subst ep; exact hr o c' w hb'
abbrev S_law_uses (K : PySem.W.Frag) : Sp := BF K (fun x : Kd × Int => [kP x.1, .int x.2]) (fun x => wfD x.1 ∧ 0 ≤ x.2 ∧ x.2 ≤ 400) (fun _ => 410) (fun x r => ∃ us : List Int, (us.length : Int) = x.2 ∧ useOk us ∧ r = .lst (us.map .int))
theorem pl__law_uses (kd : Kd) (m : Int) (n : Nat) (c : MC) (w : wfD kd) (hm : 0 ≤ m ∧ m ≤ 400) (hb : Bx n c) (hn : n + 410 ≤ 1000000000) : SV K 1 (t__law_uses K (S_law_uses_near K) (S_law_take K) (S_law_pick K)) (startE 6 [.c 0, .v (kP kd), .v (.int m)]) [c]
    { nx := fun _ M => (∃ us : List Int, (us.length : Int) = m ∧ useOk us ∧ P.non = .lst (us.map .int)) ∧ ∃ c' M', M = c' :: M' ∧ Bx (n + 410) c', rt := fun M d => ∃ p, Fz 1 M d p ∧ (∃ us : List Int, (us.length : Int) = m ∧ useOk us ∧ p = .lst (us.map .int)) ∧ ∃ c' M', M = c' :: M' ∧ Bx (n + 410) c' } := by
  unfold t__law_uses
  apply sv_seq; apply sv_asg; apply ev_call; apply ea_cons; apply ev_tup; apply ea_cons
  refine ev_take rfl rfl hb ⟨by decide, by decide⟩ ep_int (by omega) fun i1 c1 h10 h11 hb1 => ?_
  apply ea_ep (eps_cons (by trivial) (eps_cons (by trivial) (eps_cons (by trivial) eps_nil)))
  refine ⟨iP4 (at_ kd i1), rfl, Nat.le_of_ble_eq_true rfl, ?_⟩
  apply ea_nil
  refine ⟨at_ kd i1, rfl, ⟨w.at h10, by show i1 ≤ 100000; omega⟩, ?_⟩
  rintro _ ⟨ns, ⟨hn0, hn1, hns⟩, rfl⟩
  apply sv_seq; apply sv_asg; apply ev_cell
  refine (en_box (c := c1) (cost := 1) (Rk := fun q => ∃ z : Int, q = .int z ∧ 0 ≤ z ∧ z ≤ 1000000000000) (tgt_name (by decide)) (items := rangeP 0 m.toNat) (eip_range1 (eps_cons (ep_var rfl) eps_nil) (by omega) (by omega)) (by rw [rangeP_len]; omega) hb1 ?_).imp ?_
  · intro i p c' n' _ hb' hn'
    rw [rangeP_len] at hn'
    apply gv_name
    apply ev_op; apply ev_ep; (exact ep_var rfl); refine ⟨_, rfl, ?_⟩
    refine ev_take rfl rfl hb' (m := (ns.length : Nat)) ⟨by omega, by omega⟩ (ep_cb (eps_cons (ep_var rfl) eps_nil) (rc_len (n := ns.length) (by simp [lenP]))) (by omega) fun j c'' hj0 hj1 hb'' => ?_
    have hj : ns[j.toNat]? = some (ns[j.toNat]'(by omega)) := List.getElem?_eq_getElem _
    have hix : atI (ns.map P.int) j = some (.int (ns[j.toNat]'(by omega))) := by
      have e := atI_nat (xs := ns.map P.int) (j := j.toNat) (by rw [List.getElem?_map, hj]; rfl)
      rwa [Int.toNat_of_nonneg hj0] at e
    have hz := hns _ (List.mem_of_getElem? hj)
    exact ⟨_, rfl, _, rv_ixL hix, _, c'', rfl, rfl, hb'', _, rfl, by omega, by omega⟩
  rintro M1 ds ⟨qs, c2, rfl, rfl, hb2, hlen, hqs⟩
  rw [rangeP_len] at hb2 hlen
  obtain ⟨us, rfl, hus⟩ : ∃ us : List Int, qs = us.map .int ∧ ∀ u ∈ us, 0 ≤ u ∧ u ≤ 1000000000000 := ints_of hqs
  rw [List.length_map] at hlen
  have hb2 : Bx (n + 401) c2 := Bx.mono hb2 (by omega)
  have hul : (us.length : Int) = m := by omega
  have fin : ∀ (c3 : MC) (us : List Int) (x : Option D), (us.length : Int) = m → (∀ u ∈ us, 0 ≤ u ∧ u ≤ 1000000000000) → Bx (n + 404) c3 → SV K 1 (tRet (tVar 4)) [some (.c 0), some (.v (kP kd)), some (.v (.int m)), some (.v (.lst (ns.map .int))), some (.c 1), x] [c3, .l ((us.map P.int).map .v)]
    { nx := fun _ M => (∃ us : List Int, (us.length : Int) = m ∧ useOk us ∧ P.non = .lst (us.map .int)) ∧ ∃ c' M', M = c' :: M' ∧ Bx (n + 410) c', rt := fun M d => ∃ p, Fz 1 M d p ∧ (∃ us : List Int, (us.length : Int) = m ∧ useOk us ∧ p = .lst (us.map .int)) ∧ ∃ c' M', M = c' :: M' ∧ Bx (n + 410) c' } := by
    intro c3 us x hl hu hb3
    apply sv_ret; apply ev_var rfl
    exact ⟨_, .c (Nat.le_refl _) rfl (Fzs.vs _ _ _), ⟨us, hl, ⟨by omega, hu⟩, rfl⟩, c3, _, rfl, Bx.mono hb3 (by omega)⟩
  apply sv_seq; apply sv_if; apply et_and; apply et_test; apply ev_op
  refine ev_take rfl rfl hb2 ⟨by decide, by decide⟩ ep_int (by omega) fun i3 c3 h30 h31 hb3 => ?_
  refine ⟨_, rfl, ev_ep ep_int ⟨_, rfl, _, rv_eq_ii, _, rfl, ?_⟩⟩
  by_cases hi3 : i3 = 0
  · rw [if_pos (decide_eq_true hi3)]
    refine et_eb (b := !decide (us = [])) ?_ ?_
    · refine eb_is (eb_test (ef_op (ef_var rfl (.c (Nat.zero_le _) rfl (Fzs.vs _ _ (us.map P.int)))) (ef_ep (ep_lst eps_nil (Nat.zero_le _))) (rv_ne_d (n := 8) (okds_ints us) rfl (by decide)) rfl)) ?_
      rw [pEq_nil]
    by_cases hu0 : us = []
    · rw [decide_eq_true hu0]
      exact sv_next (fin c3 us none hul hus (Bx.mono hb3 (by omega)))
    rw [decide_eq_false hu0]
    have hlen0 : 0 < us.length := List.length_pos_iff.mpr hu0
    have pw : Z.EP K (tOp (rI CPow fun i j => .int (i ^ j.toNat)) (tC (.int 10)) (tC (.int 12))) [some (.c 0), some (.v (kP kd)), some (.v (.int m)), some (.v (.lst (ns.map .int))), some (.c 1), none] [c3, .l ((us.map P.int).map .v)] (.int 1000000000000) := ep_cast (ep_op ep_int ep_int (rv_ic ⟨by decide, by decide, by decide⟩)) rfl
    show SV K 1 _ _ _ _
    apply sv_setitem
    refine ev_bx rfl (eps_cons (p := .lst (([1000000000000, 1000000000000 - 1, 99999, 100000] : List Int).map .int)) (ep_lst (eps_cons pw (eps_cons (ep_op pw ep_int rv_ii) (eps_cons ep_int (eps_cons ep_int eps_nil)))) (Nat.le_of_ble_eq_true rfl)) eps_nil) rfl hb3 (false, ([1000000000000, 1000000000000 - 1, 99999, 100000] : List Int).map .int) rfl ⟨Nat.succ_pos _, Nat.le_of_ble_eq_true rfl⟩ (by show n + 401 + 1 + 1 ≤ 1000000000; omega) ?_
    intro q c4 hq hb4
    obtain ⟨z, hz, rfl⟩ := in_ints hq
    have hz2 : 0 ≤ z ∧ z ≤ 1000000000000 := by
      simp only [List.mem_cons, List.not_mem_nil, or_false] at hz
      omega
    have hb4 : Bx (n + 403) c4 := hb4
    apply ev_var rfl
    refine ⟨1, rfl, ?_⟩
    refine ev_take rfl rfl hb4 (m := (us.length : Nat)) ⟨by omega, by omega⟩ ?_ (by omega) fun j c5 hj0 hj1 hb5 => ?_
    · exact ef_cb (efs_cons (ef_var rfl (.c (Nat.zero_le _) rfl (Fzs.vs _ _ (us.map P.int)))) efs_nil) (rc_len (n := us.length) (by simp [lenP])) rfl
    refine ⟨j, j.toNat, (us.map P.int).map .v, rfl, rfl, ?_, ?_⟩
    · unfold ixN
      rw [if_pos (by omega), if_pos (by simp; omega)]
    have eset : ((us.map P.int).map D.v).set j.toNat (.v (.int z)) = ((us.set j.toNat z).map P.int).map .v := by
      rw [List.map_set, List.map_set]
    rw [eset]
    refine fin c5 (us.set j.toNat z) none (by rw [List.length_set]; exact hul) (fun u hu => ?_) hb5
    rcases List.mem_or_eq_of_mem_set hu with h | h
    · exact hus u h
    · rw [h]; exact hz2
  · rw [if_neg (by simpa using hi3)]
    exact sv_next (fin c3 us none hul hus (Bx.mono hb3 (by omega)))
end
end R78
set_option maxRecDepth 100000
set_option maxHeartbeats 4000000
namespace R78
open PySem PySem.Spec PyProof.Rows L2 Z
theorem useOk_app {us vs : List Int} (h : useOk us) (h2 : useOk vs) : useOk ((us ++ vs).take 400) := by
  refine ⟨by rw [List.length_take]; omega, fun n hn => ?_⟩
  rcases List.mem_append.mp (List.mem_of_mem_take hn) with h3 | h3
  · exact h.2 n h3
  · exact h2.2 n h3
theorem take_app {us vs : List Int} (h : useOk us) : (us ++ vs).take 400 = us ++ vs.take (400 - us.length) := by
  rw [List.take_append, List.take_of_length_le h.1]
/-- a kind that needs no more -/
structure lessK (k k' : Kd) : Prop where
  w : wfD k'
  p : k.p ≤ k'.p
  b : k.b ≤ k'.b
  l : k.l = k'.l
section
variable {K : PySem.W.Frag} {Γ : Z.Env} {M : Mem} {E : XK} {t : TA} {a b c d i j h k u v : Int} {r : Bool} {p q : P} {ps qs : List P} {te : TE} {w : Str} {o o0 o1 : Ck} {s s0 s1 : St2} {ns us : List Int} {Φ : Mem → D → Prop} {kd : Kd}
local macro_rules | `(tactic| get_elem_tactic_trivial) => `(tactic| first
  | exact rv_plus_i | exact rv_ii | exact rv_ib | exact rv_eq_ii | exact rv_ne_ii | exact rv_eq_ss | exact rv_ne_ss | exact rv_eq_bb | exact rv_ne_bb | exact rv_ixT rfl | exact rv_ixL rfl
  | exact rv_plus_t (Nat.le_of_ble_eq_true rfl) | exact rv_plus_l (Nat.le_of_ble_eq_true rfl) | exact rv_plus_s (Nat.le_of_ble_eq_true rfl) | exact rv_isB | exact rv_inL rfl rfl | exact rv_inT rfl rfl | exact rv_ic (by decide))
local macro_rules | `(tactic| decreasing_trivial) => `(tactic| first
  | exact rc_len rfl | exact rc_int | exact rc_intB | exact rc_abs | exact rc_tupleL | exact rc_tupleT | exact rc_list rfl | exact rc_max2 | exact rc_min2)
local macro_rules | `(tactic| trivial) => `(tactic| first
  | exact ep_int | exact ep_str | exact ep_bl | exact ep_non
  | exact ep_var rfl
  | (apply ep_op; trivial; trivial; get_elem_tactic_trivial)
  | (apply ep_cb; trivial; decreasing_trivial)
  | (apply ep_andF; trivial; rfl)
  | (apply ep_andV; trivial; intro _; trivial)
  | (apply ep_orT; trivial; rfl)
  | (apply ep_orV; trivial; intro _; trivial)
  | (apply ep_notV; trivial)
  | (apply ep_isN; trivial) | (apply ep_notN; trivial)
  | (apply ep_un; trivial; exact ru_i)
  | (apply ep_tup; trivial; exact Nat.le_of_ble_eq_true rfl) | (apply ep_lst; trivial; exact Nat.le_of_ble_eq_true rfl)
  | (apply ep_chain; trivial; trivial; get_elem_tactic_trivial; intro _; trivial; intro _; get_elem_tactic_trivial)
  | exact eps_nil | (apply eps_cons; trivial; trivial) | (apply eps_star; trivial; rfl; trivial)
  | (apply ef_ep; trivial)
  | (apply eb_B; trivial) | (apply eb_test; trivial)
  | (apply eb_andF; trivial; rfl)
  | (apply eb_and; trivial; intro _; trivial)
  | (apply eb_orT; trivial; rfl)
  | (apply eb_or; trivial; intro _; trivial)
  | (apply eb_not; trivial)
  | (apply ep_ifT; trivial; rfl; trivial) | (apply ep_ifF; trivial; rfl; trivial)
  | (apply ep_ifI; trivial; intro _; trivial; intro _; trivial) | (apply ep_ifL; trivial; intro _; trivial; intro _; trivial)
  | (apply ep_isi_int; trivial; first | rfl | assumption) | (apply ep_isi_bool; trivial; first | rfl | assumption) | (apply ep_isi_tuple; trivial; first | rfl | assumption) | (apply ep_isi_str; trivial; first | rfl | assumption)
  | (apply ep_isi_list; trivial; first | rfl | assumption) | (apply ep_isi_lt; trivial; first | rfl | assumption))
local macro_rules | `(tactic| trivial) => `(tactic| (apply ep_ixC rfl rfl; rfl))
local macro_rules | `(tactic| trivial) => `(tactic| (apply ca_is_integer; trivial; first | rfl | assumption))
local macro_rules | `(tactic| trivial) => `(tactic| (apply ca_is_between; trivial; first | rfl | assumption))
local macro_rules | `(tactic| trivial) => `(tactic| (apply ca_is_list; trivial; first | rfl | assumption))
local macro_rules | `(tactic| trivial) => `(tactic| (apply ca_check_clock; trivial))
local macro_rules | `(tactic| trivial) => `(tactic| (apply ca_first_state; trivial))
theorem wfC_at {kd : Kd} {m : Int} (w : wfD kd) (h : 0 ≤ m) (h2 : m ≤ 100000) : wfC (at_ kd m) := ⟨w.at h, h2⟩
theorem ep_clk {m : Int} {te : TE} {x : Nat} (hx : Γ[x]? = some (some (.v (kP kd)))) (hm : Z.EP K te Γ M (.int m)) (w : wfC (at_ kd m)) : Z.EP K (tMake (He.ga K "Clock") (SClock__init__ K) [] E (tCons te (tCons (tOp (rIx K) (tVar x) (tC (.int 0))) (tCons (tOp (rIx K) (tVar x) (tC (.int 1))) (tCons (tOp (rIx K) (tVar x) (tC (.int 2))) tNil))))) Γ M (cP K (at_ kd m)) :=
  ca_Clock (o := at_ kd m) (eps_cons hm (eps_cons (ep_op (ep_var hx) ep_int (rv_ixT rfl)) (eps_cons (ep_op (ep_var hx) ep_int (rv_ixT rfl)) (eps_cons (ep_op (ep_var hx) ep_int (rv_ixT rfl)) eps_nil)))) w
theorem ep_ro {nm : Bool} {x y z : Nat} {E1 E2 : XK} (hx : Γ[x]? = some (some (.v (cP K o)))) (hy : Γ[y]? = some (some (.v (.lst (us.map .int))))) (hz : Γ[z]? = some (some (.v (.bl nm)))) (w : wfK o) (hu : useOk us) :
    Z.EP K (tIf (tB (tVar z)) (tCall (Srun_out K) [] E1 (tCons (tVar x) (tCons (tVar y) tNil))) (tCallN 0 (List.length (α := Str) ["uses", "clock"]) (Srun_out K) (fun vs zs => perm [1, 0] (vs ++ zs)) E2 tNil (tCons (tVar y) (tCons (tVar x) tNil)))) Γ M (oiP (ro o us)) :=
  ep_ifB (eb_B (ep_var hz)) (fun _ => ca_ro (r := false) (eps_cons (ep_var hx) (eps_cons (ep_var hy) eps_nil)) w hu) (fun _ => cn_ro (r := false) (eps_cons (ep_var hy) (eps_cons (ep_var hx) eps_nil)) w hu)
abbrev S_law_main_right (K : PySem.W.Frag) : Sp := BF K (fun x : Kd × List Int × Bool => [kP x.1, .lst (x.2.1.map .int), .bl x.2.2]) (fun x => wfD x.1 ∧ useOk x.2.1) (fun _ => 410) (fun _ r => r = .bl true)
theorem pl__law_main_right (kd : Kd) (us : List Int) (nm : Bool) (N : Nat) (c : MC) (w : wfD kd) (hu : useOk us) (hb : Bx N c) (hn : N + 410 ≤ 1000000000) :
    SV K 1 (t__law_main_right K (S_law_needed K) (S_law_is K 3) (S_law_needed_told K) (SClock__init__ K) (Srun_out K) (S_law_states K) (S_law_uses K)) (startE 11 [.c 0, .v (kP kd), .v (.lst (us.map .int)), .v (.bl nm)]) [c]
    { nx := fun _ M => P.non = .bl true ∧ ∃ c' M', M = c' :: M' ∧ Bx (N + 410) c', rt := fun M d => ∃ p, Fz 1 M d p ∧ p = .bl true ∧ ∃ c' M', M = c' :: M' ∧ Bx (N + 410) c' } := by
  unfold t__law_main_right
  obtain ⟨v, hv⟩ := exNeed w hu
  have hv0 := hv.1
  apply sv_seq; apply sv_set; exact ca__law_needed (eps_cons (ep_var rfl) (eps_cons (ep_var rfl) eps_nil)) w hu hv
  apply sv_seq; apply sv_ifF
  · apply eb_not (b := true); apply eb_B
    exact ca_law_is (n := 3) (p := .int v) (eps_cons (ca__law_needed_told (eps_cons (ep_var rfl) (eps_cons (ep_var rfl) (eps_cons (ep_var rfl) eps_nil))) w hu hv) (eps_cons (ep_var rfl) eps_nil)) rfl rfl
  · rfl
  apply sv_next
  -- behind the clocks
  apply sv_seq
  refine SV.imp (E := { nx := fun Γ M => M = [c] ∧ ∃ x5 x6 : Option D, Γ = [some (.c 0), some (.v (kP kd)), some (.v (.lst (us.map .int))), some (.v (.bl nm)), some (.v (.int v)), x5, x6, none, none, none, none], rt := fun _ _ => False }) ?_ ?_ (fun _ _ h => h.elim) (fun _ _ h => h.elim) (fun _ _ h => h.elim)
  rotate_left
  · rintro Γ1 M1 ⟨rfl, x5, x6, rfl⟩
    apply sv_seq; apply sv_asg; apply ev_op; apply ev_ep; (exact ep_var rfl); refine ⟨_, rfl, ?_⟩
    refine ev_bx rfl (eps_cons (ep_var rfl) (eps_cons ep_int eps_nil)) rfl hb (kd, 3) rfl ⟨w, by show (0 : Int) ≤ 3; decide, by show (3 : Int) ≤ 400; decide⟩ hn ?_
    rintro _ c1 ⟨vs, hvl, hvs, rfl⟩ hb1
    have hvl : (vs.length : Int) = 3 := hvl
    refine ⟨_, rfl, _, rv_plus_l (by rw [List.length_map, List.length_map, sizeLine_eq]; have := hu.1; omega), ?_⟩
    rw [← List.map_append]
    -- another kind
    have hother : ∃ kd', lessK kd kd' ∧ Z.EP K (tIf (tTest (tChain (rI0 fun i j => .bl (decide (i < j))) (rI0 fun i j => .bl (decide (i < j))) (tC (.int 0)) (tOp (rIx K) (tVar 1) (tC (.int 1))) (tC (.int 100)))) (tTup (tCons (tOp (rIx K) (tVar 1) (tC (.int 0))) (tCons (tOp (rPlus K) (tOp (rIx K) (tVar 1) (tC (.int 1))) (tC (.int 1))) (tCons (tOp (rIx K) (tVar 1) (tC (.int 2))) tNil)))) (tIf (tTest (tOp (rI0 fun i j => .bl (decide (j < i))) (tOp (rIx K) (tVar 1) (tC (.int 0))) (tC (.int 0)))) (tTup (tCons (tCB (rMinA K) (tCons (tC (.int 10000)) (tCons (tOp (rPlus K) (tOp (rIx K) (tVar 1) (tC (.int 0))) (tC (.int 1))) tNil))) (tCons (tC (.int 0)) (tCons (tC (.int 0)) tNil)))) (tVar 1)))
        [some (.c 0), some (.v (kP kd)), some (.v (.lst (us.map .int))), some (.v (.bl nm)), some (.v (.int v)), x5, x6, some (.v (.lst ((us ++ vs).map .int))), none, none, none] [c1] (kP kd') := by
      have wb := w.b0; have wb1 := w.b1; have wp := w.p0; have wp1 := w.p1
      have e0 : ∀ {Γ : Z.Env} {M : Mem}, Γ[1]? = some (some (.v (kP kd))) → Z.EP K (tOp (rIx K) (tVar 1) (tC (.int 0))) Γ M (.int kd.b) := fun g => ep_op (ep_var g) ep_int (rv_ixT rfl)
      have e1 : ∀ {Γ : Z.Env} {M : Mem}, Γ[1]? = some (some (.v (kP kd))) → Z.EP K (tOp (rIx K) (tVar 1) (tC (.int 1))) Γ M (.int kd.p) := fun g => ep_op (ep_var g) ep_int (rv_ixT rfl)
      have e2 : ∀ {Γ : Z.Env} {M : Mem}, Γ[1]? = some (some (.v (kP kd))) → Z.EP K (tOp (rIx K) (tVar 1) (tC (.int 2))) Γ M (.int kd.l) := fun g => ep_op (ep_var g) ep_int (rv_ixT rfl)
      by_cases h1 : 0 < kd.p ∧ kd.p < 100
      · refine ⟨⟨kd.b, kd.p + 1, kd.l⟩, ⟨⟨Int.le_refl 0, w.b0, w.b1, by show 0 ≤ kd.p + 1; omega, by show kd.p + 1 ≤ 100; omega, fun _ => w.pb h1.1, fun _ => w.l0 h1.1, w.l1, fun z => absurd (show kd.p + 1 = 0 from z) (by omega)⟩, by show kd.p ≤ kd.p + 1; omega, Int.le_refl _, rfl⟩, ?_⟩
        apply ep_ifT
        · exact eb_test (ep_chain ep_int (e1 rfl) rv_ib (fun _ => ep_int) fun _ => rv_ib)
        · simp [h1.1, h1.2]
        · exact ep_tup (eps_cons (e0 rfl) (eps_cons (ep_op (e1 rfl) ep_int rv_plus_i) (eps_cons (e2 rfl) eps_nil))) (Nat.le_of_ble_eq_true rfl)
      by_cases h2 : 0 < kd.b
      · have hp : kd.p = 0 := by
          by_cases z : 0 < kd.p
          · have : kd.b = 0 := w.pb z; omega
          · have : 0 ≤ kd.p := wp; omega
        have hl : kd.l = 0 := w.lp hp
        refine ⟨⟨min 10000 (kd.b + 1), 0, 0⟩, ⟨⟨Int.le_refl 0, by show 0 ≤ min 10000 (kd.b + 1); omega, by show min 10000 (kd.b + 1) ≤ 10000; omega, Int.le_refl 0, by show (0 : Int) ≤ 100; decide, fun z => absurd (show (0 : Int) < 0 from z) (by decide), fun z => absurd (show (0 : Int) < 0 from z) (by decide), by show (0 : Int) ≤ 10000; decide, fun _ => rfl⟩, by show kd.p ≤ 0; omega, by show kd.b ≤ min 10000 (kd.b + 1); have : kd.b ≤ 10000 := wb1; omega, hl⟩, ?_⟩
        apply ep_ifF
        · exact eb_test (ep_chain ep_int (e1 rfl) rv_ib (fun _ => ep_int) fun _ => rv_ib)
        · simp [hp]
        apply ep_ifT
        · exact eb_test (ep_op (e0 rfl) ep_int rv_ib)
        · exact decide_eq_true h2
        · refine ep_tup (eps_cons (ep_cast (ep_cb (eps_cons ep_int (eps_cons (ep_op (e0 rfl) ep_int rv_plus_i) eps_nil)) rc_min2) ?_) (eps_cons ep_int (eps_cons ep_int eps_nil))) (Nat.le_of_ble_eq_true rfl)
          rw [min_if]
      · refine ⟨kd, ⟨w, Int.le_refl _, Int.le_refl _, rfl⟩, ?_⟩
        apply ep_ifF
        · exact eb_test (ep_chain ep_int (e1 rfl) rv_ib (fun _ => ep_int) fun _ => rv_ib)
        · by_cases z : 0 < kd.p
          · have : ¬ kd.p < 100 := fun y => h1 ⟨z, y⟩
            simp [this]
          · simp [z]
        apply ep_ifF
        · exact eb_test (ep_op (e0 rfl) ep_int rv_ib)
        · exact decide_eq_false h2
        · exact ep_var rfl
    obtain ⟨kd', lk, heo⟩ := hother
    apply sv_seq; apply sv_set; exact heo
    have hmo := useOk_app hu hvs
    obtain ⟨v1, hv1⟩ := exNeed w hmo
    obtain ⟨v2, hv2⟩ := exNeed lk.w hu
    have hle1 : v ≤ v1 := need_more w hv (by rw [← take_app hu]; exact hv1)
    have hle2 : v2 ≤ v := need_less w lk.w lk.p lk.b lk.l hv hv2
    have esl : ∀ {Γ : Z.Env} {M : Mem}, Γ[7]? = some (some (.v (.lst ((us ++ vs).map .int)))) → Z.EP K (tSl (rSlSeq K) (tVar 7) tNoPart (tPart (tC (.int 400)))) Γ M (.lst (((us ++ vs).take 400).map .int)) := fun g => ep_cast (ep_sl (ep_var g) eo_none (eo_some ep_int) slv_l) (by rw [show (400 : Int) = ((400 : Nat) : Int) from rfl, cut_to])
    apply sv_seq; apply sv_set
    · exact ep_lst (eps_cons (ca__law_needed (eps_cons (ep_var rfl) (eps_cons (esl rfl) eps_nil)) w hmo hv1) (eps_cons (ca__law_needed (kd := kd') (eps_cons (ep_var rfl) (eps_cons (ep_var rfl) eps_nil)) lk.w hu hv2) eps_nil)) (Nat.le_of_ble_eq_true rfl)
    apply sv_retP (p := .bl true)
    · refine ep_cast (ep_andV (b := decide (v ≤ v1) && decide (v2 ≤ v)) (c := true) ?_ ?_) ?_
      · exact ep_chain (ep_op (ep_var rfl) ep_int (rv_ixL (d := .int v1) rfl)) (ep_var (p := .int v) rfl) rv_ib (fun _ => ep_op (ep_var rfl) ep_int (rv_ixL (d := .int v2) rfl)) fun _ => rv_ib
      · intro _
        exact ca_law_is (n := 3) (p := .lst [.int v1, .int v2]) (eps_cons (ep_lst (eps_cons (ca__law_needed_told (nm := !nm) (eps_cons (ep_var rfl) (eps_cons (esl rfl) (eps_cons (ep_notV (ep_var rfl)) eps_nil))) w hmo hv1) (eps_cons (ca__law_needed_told (kd := kd') (nm := nm) (eps_cons (ep_var rfl) (eps_cons (ep_var rfl) (eps_cons (ep_var rfl) eps_nil))) lk.w hu hv2) eps_nil)) (Nat.le_of_ble_eq_true rfl)) (eps_cons (ep_var rfl) eps_nil)) rfl rfl
      · rw [decide_eq_true hle1, decide_eq_true hle2]; rfl
    · exact ⟨_, .v _, rfl, c1, [], rfl, hb1⟩
  apply sv_ifB; trivial
  · intro h1
    have h1 : v ≤ 100000 := of_decide_eq_true h1
    have ero := ro_en hv.2.1
    by_cases h0 : 0 < v
    · have hno : ¬ ok kd us (v - 1) := by
        rcases hv.2.2 with z | z
        · omega
        · exact z
      have ero2 := ro_not hno
      apply sv_seq; apply sv_set
      · refine ep_op (ep_lst (eps_cons (ep_clk rfl (ep_var rfl) (wfC_at w hv0 h1)) eps_nil) (Nat.le_of_ble_eq_true rfl)) ?_ (rv_plus_l (ps := [cP K (at_ kd v)]) (qs := [cP K (at_ kd (v - 1))]) (Nat.le_of_ble_eq_true rfl))
        apply ep_ifT; trivial; exact decide_eq_true h0
        exact ep_lst (eps_cons (ep_clk rfl (ep_op (ep_var rfl) ep_int rv_ii) (wfC_at w (by omega) (by omega))) eps_nil) (Nat.le_of_ble_eq_true rfl)
      apply sv_seq; apply sv_set
      · refine ep_lcU (outs := [.non, .int (((sts (at_ kd (v - 1)) (v - 1, kd.p) us).length : Int) - 1)]) (tgt_name (by decide)) (eip_seq (ep_var rfl) rfl) (Nat.le_of_ble_eq_true rfl) (lcU_take ?_ (lcU_take ?_ .nil))
        · apply gv_name; exact ep_cast (ep_ro (o := at_ kd v) (us := us) (nm := nm) rfl rfl rfl (w.at hv0) hu) (by rw [ero]; rfl)
        · apply gv_name; exact ep_cast (ep_ro (o := at_ kd (v - 1)) (us := us) (nm := nm) rfl rfl rfl (w.at (by omega)) hu) (by rw [ero2]; rfl)
      apply sv_ifF
      · apply eb_or (b := false) (c := false)
        · apply eb_not (b := true); apply eb_B
          exact ca_law_is (n := 3) (p := .non) (eps_cons (ep_op (ep_var rfl) ep_int (rv_ixL rfl)) (eps_cons ep_non eps_nil)) rfl rfl
        · intro _; apply eb_and (b := true) (c := false)
          · exact eb_is (eb_test (ep_op (ep_cb (eps_cons (ep_var rfl) eps_nil) (rc_len (n := 2) rfl)) ep_int rv_ib)) rfl
          · intro _; apply eb_not (b := true); apply eb_B
            refine ca_law_is (n := 3) (p := .int (((sts (at_ kd (v - 1)) (v - 1, kd.p) us).length : Int) - 1)) (eps_cons (ep_op (ep_var rfl) ep_int (rv_ixL rfl)) (eps_cons (ep_op ?_ ep_int rv_ii) eps_nil)) rfl rfl
            refine ep_cb (eps_cons (ca__law_statesD (o := at_ kd (v - 1)) (us := us) (eps_cons ?_ (eps_cons (ep_var rfl) eps_nil)) (w.at (by omega)) hu) eps_nil) (rc_len (n := (sts (at_ kd (v - 1)) (v - 1, kd.p) us).length) (by simp [lenP]))
            exact ep_op (ep_tup (eps_cons (ep_op (ep_var rfl) ep_int rv_ii) eps_nil) (Nat.le_of_ble_eq_true rfl)) (ep_var rfl) (rv_plus_t (ps := [.int (v - 1)]) (qs := [.int kd.b, .int kd.p, .int kd.l]) (Nat.le_of_ble_eq_true rfl))
      · rfl
      apply sv_next
      exact ⟨rfl, _, _, rfl⟩
    · apply sv_seq; apply sv_set
      · refine ep_op (ep_lst (eps_cons (ep_clk rfl (ep_var rfl) (wfC_at w hv0 h1)) eps_nil) (Nat.le_of_ble_eq_true rfl)) ?_ (rv_plus_l (ps := [cP K (at_ kd v)]) (qs := []) (Nat.le_of_ble_eq_true rfl))
        apply ep_ifF; trivial; exact decide_eq_false h0
        exact ep_lst eps_nil (Nat.zero_le _)
      apply sv_seq; apply sv_set
      · refine ep_lcU (outs := [.non]) (tgt_name (by decide)) (eip_seq (ep_var rfl) rfl) (Nat.le_of_ble_eq_true rfl) (lcU_take ?_ .nil)
        · apply gv_name; exact ep_cast (ep_ro (o := at_ kd v) (us := us) (nm := nm) rfl rfl rfl (w.at hv0) hu) (by rw [ero]; rfl)
      apply sv_ifF
      · apply eb_or (b := false) (c := false)
        · apply eb_not (b := true); apply eb_B
          exact ca_law_is (n := 3) (p := .non) (eps_cons (ep_op (ep_var rfl) ep_int (rv_ixL rfl)) (eps_cons ep_non eps_nil)) rfl rfl
        · intro _; apply eb_andF
          · exact eb_test (ep_op (ep_cb (eps_cons (ep_var rfl) eps_nil) (rc_len (n := 1) rfl)) ep_int rv_ib)
          · rfl
      · rfl
      apply sv_next
      exact ⟨rfl, _, _, rfl⟩
  · intro _
    apply sv_next
    exact ⟨rfl, _, _, rfl⟩
end
end R78
set_option maxRecDepth 100000
set_option maxHeartbeats 4000000
namespace R78
open PySem PySem.Spec PyProof.Rows L2 Z
/-- tuple(a slot's list) -/
theorem ep_tupC {K : PySem.W.Frag} {Γ : Z.Env} {M : Mem} {x kc : Nat} {ps : List P} (e : Γ[x]? = some (some (.c kc))) (hm : M[kc]? = some (.l (ps.map .v))) : Z.EP K (tCB (rTupO K) (tCons (tVar x) tNil)) Γ M (.tup ps) := fun X A σ H s Q k => by
  obtain ⟨v, ev, r⟩ := s.sl.at_ x _ e
  cases r with
  | c ek =>
    obtain ⟨xs, hx, rx⟩ := s.cellL ek hm
    have rr := rx.toRps
    refine ⟨_, ev, _, xs, rfl, .inl ⟨.inl (.inl hx), fun l hl => ?_⟩⟩
    exact k A _ _ (.v (.tup ps)) _ (.ofSame (same_new hl)) (s.same (same_new hl)) (.v (Rp.newT s.ce.xa hl rr)) ⟨rfl, rfl⟩
section
variable {K : PySem.W.Frag} {Γ : Z.Env} {M : Mem} {E : XK} {t : TA} {a b c d i j h k u v : Int} {r : Bool} {p q : P} {ps qs : List P} {te : TE} {w : Str} {o o0 o1 : Ck} {s s0 s1 : St2} {ns us : List Int} {Φ : Mem → D → Prop} {kd : Kd}
local macro_rules | `(tactic| get_elem_tactic_trivial) => `(tactic| first
  | exact rv_plus_i | exact rv_ii | exact rv_ib | exact rv_eq_ii | exact rv_ne_ii | exact rv_eq_ss | exact rv_ne_ss | exact rv_eq_bb | exact rv_ne_bb | exact rv_ixT rfl | exact rv_ixL rfl
  | exact rv_plus_t (Nat.le_of_ble_eq_true rfl) | exact rv_plus_l (Nat.le_of_ble_eq_true rfl) | exact rv_plus_s (Nat.le_of_ble_eq_true rfl) | exact rv_isB | exact rv_inL rfl rfl | exact rv_inT rfl rfl | exact rv_ic (by decide))
local macro_rules | `(tactic| decreasing_trivial) => `(tactic| first
  | exact rc_len rfl | exact rc_int | exact rc_intB | exact rc_abs | exact rc_tupleL | exact rc_tupleT | exact rc_list rfl | exact rc_max2 | exact rc_min2)
local macro_rules | `(tactic| trivial) => `(tactic| first
  | exact ep_int | exact ep_str | exact ep_bl | exact ep_non
  | exact ep_var rfl
  | (apply ep_op; trivial; trivial; get_elem_tactic_trivial)
  | (apply ep_cb; trivial; decreasing_trivial)
  | (apply ep_andF; trivial; rfl)
  | (apply ep_andV; trivial; intro _; trivial)
  | (apply ep_orT; trivial; rfl)
  | (apply ep_orV; trivial; intro _; trivial)
  | (apply ep_notV; trivial)
  | (apply ep_isN; trivial) | (apply ep_notN; trivial)
  | (apply ep_un; trivial; exact ru_i)
  | (apply ep_tup; trivial; exact Nat.le_of_ble_eq_true rfl) | (apply ep_lst; trivial; exact Nat.le_of_ble_eq_true rfl)
  | (apply ep_chain; trivial; trivial; get_elem_tactic_trivial; intro _; trivial; intro _; get_elem_tactic_trivial)
  | exact eps_nil | (apply eps_cons; trivial; trivial) | (apply eps_star; trivial; rfl; trivial)
  | (apply ef_ep; trivial)
  | (apply eb_B; trivial) | (apply eb_test; trivial)
  | (apply eb_andF; trivial; rfl)
  | (apply eb_and; trivial; intro _; trivial)
  | (apply eb_orT; trivial; rfl)
  | (apply eb_or; trivial; intro _; trivial)
  | (apply eb_not; trivial)
  | (apply ep_ifT; trivial; rfl; trivial) | (apply ep_ifF; trivial; rfl; trivial)
  | (apply ep_ifI; trivial; intro _; trivial; intro _; trivial) | (apply ep_ifL; trivial; intro _; trivial; intro _; trivial)
  | (apply ep_isi_int; trivial; first | rfl | assumption) | (apply ep_isi_bool; trivial; first | rfl | assumption) | (apply ep_isi_tuple; trivial; first | rfl | assumption) | (apply ep_isi_str; trivial; first | rfl | assumption)
  | (apply ep_isi_list; trivial; first | rfl | assumption) | (apply ep_isi_lt; trivial; first | rfl | assumption))
local macro_rules | `(tactic| trivial) => `(tactic| (apply ep_ixC rfl rfl; rfl))
local macro_rules | `(tactic| trivial) => `(tactic| (apply ca_is_integer; trivial; first | rfl | assumption))
local macro_rules | `(tactic| trivial) => `(tactic| (apply ca_is_between; trivial; first | rfl | assumption))
local macro_rules | `(tactic| trivial) => `(tactic| (apply ca_is_list; trivial; first | rfl | assumption))
local macro_rules | `(tactic| trivial) => `(tactic| (apply ca_check_clock; trivial))
local macro_rules | `(tactic| trivial) => `(tactic| (apply ca_first_state; trivial))
abbrev tP (o0 o1 : Ck) (us : List Int) : P := .tup [wP (tr0 o0 o1 us).1, .tup [sP (tr0 o0 o1 us).2.1, sP (tr0 o0 o1 us).2.2]]
abbrev S_law_turns (K : PySem.W.Frag) : Sp := PF K (fun x : Ck × Ck × List Int => [oP x.1, oP x.2.1, .lst (x.2.2.map .int)]) (fun x => wfK x.1 ∧ wfK x.2.1 ∧ useOk x.2.2) (fun x r => r = tP x.1 x.2.1 x.2.2)
theorem pl__law_turns (o0 o1 : Ck) (us : List Int) (w0 : wfK o0) (w1 : wfK o1) (hu : useOk us) : SV K 0 (t__law_turns K (S_law_run K)) (startE 7 [.v (oP o0), .v (oP o1), .v (.lst (us.map .int))]) [] (DR (· = tP o0 o1 us)) := by
  unfold t__law_turns
  have hl4 := hu.1
  apply sv_seq; apply sv_asg; apply ev_cell; apply en_lst; apply ea_ep
  · exact eps_cons (by trivial) (eps_cons (by trivial) eps_nil)
  refine ⟨Nat.le_of_ble_eq_true rfl, ?_⟩
  apply sv_seq; apply sv_for; apply ei_ip
  · exact eip_range1 (eps_cons (ep_cb (eps_cons (ep_var rfl) eps_nil) (rc_len (n := us.length) (by simp [lenP]))) eps_nil) (by omega) (by omega)
  refine ⟨fun i Γ M => ∃ (s0 s1 : St2) (b : Bool) (x4 x5 x6 : Option D), wfS o0 s0 ∧ wfS o1 s1 ∧ ((i : Nat) : Int) % 2 = (if b = true then 1 else 0) ∧ trn o0 o1 s0 s1 b i (us.drop i) = tr0 o0 o1 us ∧ M = [.l (([sP s0, sP s1] : List P).map .v)] ∧
    Γ = [some (.v (oP o0)), some (.v (oP o1)), some (.v (.lst (us.map .int))), some (.c 0), x4, x5, x6],
    ⟨_, _, false, _, _, _, start_wf w0, start_wf w1, rfl, rfl, rfl, rfl⟩, ?_, ?_⟩
  · rintro i p Γ1 M1 hp2 ⟨s0, s1, b, x4, x5, x6, ws0, ws1, hb, ht, rfl, rfl⟩
    rw [Int.toNat_natCast] at hp2
    obtain ⟨hi, rfl⟩ := rangeP_at hp2
    rw [Int.zero_add]
    have hui : us[i]? = some us[i] := List.getElem?_eq_getElem hi
    have hdrop : us.drop i = us[i] :: us.drop (i + 1) := List.drop_eq_getElem_cons hi
    rw [hdrop] at ht
    have hu0 := hu.2 _ (List.mem_of_getElem? hui)
    generalize us[i] = u at hui ht hu0
    have hix : atI (us.map P.int) (i : Int) = some (.int u) := atI_nat (by rw [List.getElem?_map, hui]; rfl)
    apply gv_name
    apply sv_seq; apply sv_set
    · exact ep_op (ep_cb (eps_cons (ep_var rfl) eps_nil) rc_int) ep_int (rv_ic (by decide))
    rw [hb]
    cases b with
    | false =>
      rw [trn_f] at ht
      apply sv_seq; apply sv_set (p := soP (nxt o0 s0 u))
      · refine ep_op (ca__law_run (o := o0) (s := s0) (u := u) (eps_cons (ep_op (ep_lst (eps_cons (ep_var rfl) (eps_cons (ep_var rfl) eps_nil)) (Nat.le_of_ble_eq_true rfl)) (ep_var rfl) (rv_ixL (d := oP o0) rfl)) (eps_cons (ev_ixC (.inl rfl) (ev_var rfl ⟨0, rfl, ev_ep (ep_var rfl) ⟨0, _, .v (sP s0), rfl, rfl, rfl, rfl, rfl⟩⟩)) (eps_cons ep_int (eps_cons (ep_op (ep_var rfl) (ep_var rfl) (rv_ixL hix)) eps_nil)))) w0 ws0 hu0) ep_int (rv_ixT rfl)
      cases e : nxt o0 s0 u with
      | none =>
        rw [e] at ht
        apply sv_seq; apply sv_ifT; (apply eb_B; exact ep_isN (p := .non) (ef_ep (ep_var rfl))); rfl
        apply sv_retP
        · exact ep_tup (eps_cons (ep_tup (eps_cons (ep_op (ep_var rfl) ep_int rv_plus_i) (eps_cons (ep_var rfl) eps_nil)) (Nat.le_of_ble_eq_true rfl)) (eps_cons (ep_tupC (ps := [sP s0, sP s1]) rfl rfl) eps_nil)) (Nat.le_of_ble_eq_true rfl)
        · apply fz_is; unfold tP; rw [← ht]; rfl
      | some s' =>
        rw [e] at ht
        apply sv_seq; apply sv_ifF; (apply eb_B; exact ep_isN (p := sP s') (ef_ep (ep_var rfl))); rfl
        apply sv_next
        apply sv_setitem; apply ev_ep (p := sP s') (ep_var rfl); apply ev_var rfl; refine ⟨0, rfl, ?_⟩
        apply ev_ep (ep_var rfl)
        refine ⟨0, 0, _, rfl, rfl, rfl, ?_⟩
        exact ni_refl ⟨s', s1, true, _, _, _, nxt_wf w0 ws0 hu0.1 e, ws1, by rw [if_pos rfl]; have hb : (i : Int) % 2 = 0 := hb; omega, ht, rfl, rfl⟩
    | true =>
      rw [trn_t] at ht
      apply sv_seq; apply sv_set (p := soP (nxt o1 s1 u))
      · refine ep_op (ca__law_run (o := o1) (s := s1) (u := u) (eps_cons (ep_op (ep_lst (eps_cons (ep_var rfl) (eps_cons (ep_var rfl) eps_nil)) (Nat.le_of_ble_eq_true rfl)) (ep_var rfl) (rv_ixL (d := oP o1) rfl)) (eps_cons (ev_ixC (.inl rfl) (ev_var rfl ⟨0, rfl, ev_ep (ep_var rfl) ⟨1, _, .v (sP s1), rfl, rfl, rfl, rfl, rfl⟩⟩)) (eps_cons ep_int (eps_cons (ep_op (ep_var rfl) (ep_var rfl) (rv_ixL hix)) eps_nil)))) w1 ws1 hu0) ep_int (rv_ixT rfl)
      cases e : nxt o1 s1 u with
      | none =>
        rw [e] at ht
        apply sv_seq; apply sv_ifT; (apply eb_B; exact ep_isN (p := .non) (ef_ep (ep_var rfl))); rfl
        apply sv_retP
        · exact ep_tup (eps_cons (ep_tup (eps_cons (ep_op (ep_var rfl) ep_int rv_plus_i) (eps_cons (ep_var rfl) eps_nil)) (Nat.le_of_ble_eq_true rfl)) (eps_cons (ep_tupC (ps := [sP s0, sP s1]) rfl rfl) eps_nil)) (Nat.le_of_ble_eq_true rfl)
        · apply fz_is; unfold tP; rw [← ht]; rfl
      | some s' =>
        rw [e] at ht
        apply sv_seq; apply sv_ifF; (apply eb_B; exact ep_isN (p := sP s') (ef_ep (ep_var rfl))); rfl
        apply sv_next
        apply sv_setitem; apply ev_ep (p := sP s') (ep_var rfl); apply ev_var rfl; refine ⟨0, rfl, ?_⟩
        apply ev_ep (ep_var rfl)
        refine ⟨1, 1, _, rfl, rfl, rfl, ?_⟩
        exact ni_refl ⟨s0, s', false, _, _, _, ws0, nxt_wf w1 ws1 hu0.1 e, by rw [if_neg (by decide)]; have hb : (i : Int) % 2 = 1 := hb; omega, ht, rfl, rfl⟩
  · rintro Γ1 M1 ⟨s0, s1, b, x4, x5, x6, ws0, ws1, hb, ht, rfl, rfl⟩
    rw [rangeP_len, Int.toNat_natCast, List.drop_length] at ht
    apply sv_retP
    · exact ep_tup (eps_cons ep_non (eps_cons (ep_tupC (ps := [sP s0, sP s1]) rfl rfl) eps_nil)) (Nat.le_of_ble_eq_true rfl)
    · apply fz_is; unfold tP; rw [← ht]; cases b <;> rfl
theorem ca__law_turns (hh : EPs K t Γ M [oP o0, oP o1, .lst (us.map .int)]) (w0 : wfK o0) (w1 : wfK o1) (hu : useOk us) : Z.EP K (tCall (S_law_turns K) [] E t) Γ M (tP o0 o1 us) := ep_call hh (o0, o1, us) rfl ⟨w0, w1, hu⟩ (fun _ h => h)
theorem ca_first_out {r : Bool} (hh : EPs K t Γ M [cP K o0, cP K o1, sqP r (us.map .int)]) (w0 : wfK o0) (w1 : wfK o1) (hu : useOk us) : Z.EP K (tCall (Sfirst_out K) [] E t) Γ M (wP (tr0 o0 o1 us).1) := ep_call hh (o0, o1, r, us) rfl ⟨w0, w1, hu⟩ (fun _ h => h)
theorem cn_first_out {r : Bool} (hh : EPs K t Γ M [sqP r (us.map .int), cP K o1, cP K o0]) (w0 : wfK o0) (w1 : wfK o1) (hu : useOk us) : Z.EP K (tCallN 0 (List.length (α := Str) ["uses", "white", "black"]) (Sfirst_out K) (fun vs zs => perm [2, 1, 0] (vs ++ zs)) E tNil t) Γ M (wP (tr0 o0 o1 us).1) := ep_callN eps_nil hh rfl rfl (o0, o1, r, us) rfl ⟨w0, w1, hu⟩ (fun _ h => h)
theorem ca_states_left {r : Bool} (hh : EPs K t Γ M [cP K o0, cP K o1, sqP r (us.map .int)]) (w0 : wfK o0) (w1 : wfK o1) (hu : useOk us) : Z.EP K (tCall (Sstates_left K) [] E t) Γ M (.tup [sP (tr0 o0 o1 us).2.1, sP (tr0 o0 o1 us).2.2]) := ep_call hh (o0, o1, r, us) rfl ⟨w0, w1, hu⟩ (fun _ h => h)
theorem cn_states_left {r : Bool} (hh : EPs K t Γ M [sqP r (us.map .int), cP K o1, cP K o0]) (w0 : wfK o0) (w1 : wfK o1) (hu : useOk us) : Z.EP K (tCallN 0 (List.length (α := Str) ["uses", "white", "black"]) (Sstates_left K) (fun vs zs => perm [2, 1, 0] (vs ++ zs)) E tNil t) Γ M (.tup [sP (tr0 o0 o1 us).2.1, sP (tr0 o0 o1 us).2.2]) := ep_callN eps_nil hh rfl rfl (o0, o1, r, us) rfl ⟨w0, w1, hu⟩ (fun _ h => h)
theorem okq_w {n : Nat} (x : Option (Int × Int)) : okq (n + 1) (wP x) = true := by
  cases x
  · rfl
  · simp [wP, okq, okqs, okq_int]
theorem okd_w (x : Option (Int × Int)) : okd 8 (wP x) = true := by
  cases x <;> rfl
theorem pEq_tt {i j : Int} : pEq (.tup [.int i, .int j]) (.tup [.int i, .int j]) = true := by
  simp [pEq, py, pys, PyData.eqv, PyData.eqvAll]
abbrev S_law_two_right (K : PySem.W.Frag) : Sp := PF K (fun x : Ck × Ck × List Int × Bool => [oP x.1, oP x.2.1, .lst (x.2.2.1.map .int), .bl x.2.2.2]) (fun x => wfC x.1 ∧ wfC x.2.1 ∧ useOk x.2.2.1) (fun _ r => r = .bl true)
theorem pl__law_two_right (o0 o1 : Ck) (us : List Int) (nm : Bool) (w0 : wfC o0) (w1 : wfC o1) (hu : useOk us) : SV K 0 (t__law_two_right K (S_law_turns K) (S_law_clock_of K) (Sfirst_out K) (Sstates_left K) (S_law_is K 3)) (startE 9 [.v (oP o0), .v (oP o1), .v (.lst (us.map .int)), .v (.bl nm)]) [] (DR (· = .bl true)) := by
  unfold t__law_two_right
  have k0 := w0.towfK; have k1 := w1.towfK
  apply sv_seq; apply sv_set; exact ca__law_turns (eps_cons (ep_var rfl) (eps_cons (ep_var rfl) (eps_cons (ep_var rfl) eps_nil))) k0 k1 hu
  apply sv_seq; apply sv_par; apply ea_ep
  · exact eps_cons (ca__law_clock_of (o := o0) (eps_cons (ep_var rfl) eps_nil) w0) (eps_cons (ca__law_clock_of (o := o1) (eps_cons (ep_var rfl) eps_nil) w1) eps_nil)
  refine ⟨_, _, rfl, ?_⟩
  apply sv_seq
  refine SV.imp (E := { nx := fun Γ M => M = [] ∧ Γ = [some (.v (oP o0)), some (.v (oP o1)), some (.v (.lst (us.map .int))), some (.v (.bl nm)), some (.v (tP o0 o1 us)), some (.v (cP K o0)), some (.v (cP K o1)), some (.v (.lst [wP (tr0 o0 o1 us).1, .tup [sP (tr0 o0 o1 us).2.1, sP (tr0 o0 o1 us).2.2]])), none], rt := fun _ _ => False }) ?_ ?_ (fun _ _ h => h.elim) (fun _ _ h => h.elim) (fun _ _ h => h.elim)
  · apply sv_ifB; trivial
    · intro _
      apply sv_set
      · exact ep_lst (eps_cons (cn_first_out (r := false) (eps_cons (ep_var rfl) (eps_cons (ep_var rfl) (eps_cons (ep_var rfl) eps_nil))) k0 k1 hu) (eps_cons (ca_states_left (r := false) (eps_cons (ep_var rfl) (eps_cons (ep_var rfl) (eps_cons (ep_var rfl) eps_nil))) k0 k1 hu) eps_nil)) (Nat.le_of_ble_eq_true rfl)
      exact ⟨rfl, rfl⟩
    · intro _
      apply sv_set
      · exact ep_lst (eps_cons (ca_first_out (r := true) (us := us) (eps_cons (ep_var rfl) (eps_cons (ep_var rfl) (eps_cons (ep_cb (eps_cons (ep_var rfl) eps_nil) rc_tupleL) eps_nil))) k0 k1 hu) (eps_cons (cn_states_left (r := false) (eps_cons (ep_var rfl) (eps_cons (ep_var rfl) (eps_cons (ep_var rfl) eps_nil))) k0 k1 hu) eps_nil)) (Nat.le_of_ble_eq_true rfl)
      exact ⟨rfl, rfl⟩
  rintro Γ1 M1 ⟨rfl, rfl⟩
  have okS : ∀ s : St2, okq 1 (sP s) = true := fun s => by simp [okq, okqs, okq_int]
  apply sv_seq; apply sv_ifF
  · apply eb_not (b := true); apply eb_B
    refine ca_law_is (n := 3) (eps_cons (ep_var rfl) (eps_cons (ep_lst (eps_cons (ep_op (ep_var rfl) ep_int (rv_ixT rfl)) (eps_cons (ep_op (ep_var rfl) ep_int (rv_ixT rfl)) eps_nil)) (Nat.le_of_ble_eq_true rfl)) eps_nil)) rfl ?_
    have h1 := okq_w (n := 1) (tr0 o0 o1 us).1
    have h2 := okS (tr0 o0 o1 us).2.1
    have h3 := okS (tr0 o0 o1 us).2.2
    show (decide (2 < 1000) && (okq 2 (wP (tr0 o0 o1 us).1) && (((decide (2 < 1000) && (okq 1 (sP (tr0 o0 o1 us).2.1) && (okq 1 (sP (tr0 o0 o1 us).2.2) && true)))) && true))) = true
    rw [h1, h2, h3]
    rfl
  · rfl
  apply sv_next
  have lenE : ∀ {Γ : Z.Env} {M : Mem}, Γ[2]? = some (some (.v (.lst (us.map .int)))) → Z.EP K (tCB (rLen K) (tCons (tVar 2) tNil)) Γ M (.int us.length) := fun g => ep_cb (eps_cons (ep_var g) eps_nil) (rc_len (n := us.length) (by simp [lenP]))
  apply sv_seq; apply sv_ifB
  · exact eb_and (eb_test (ep_op (lenE rfl) ep_int rv_ib)) fun _ => eb_test (ep_op (ep_op (ep_var rfl) ep_int (rv_ixT (d := .int o1.b) rfl)) ep_int rv_eq_ii)
  · intro h
    rw [Bool.and_eq_true, decide_eq_true_eq, decide_eq_true_eq] at h
    have h0 : useOk (0 :: us) := ⟨by rw [List.length_cons]; omega, fun n hn => by
      rcases List.mem_cons.mp hn with e | e
      · rw [e]; exact ⟨Int.le_refl 0, by decide⟩
      · exact hu.2 n e⟩
    have ez := trn_zero (o0 := o0) (o1 := o1) (us := us) h.2 k1.m0
    have e0 : ∀ {Γ : Z.Env} {M : Mem}, Γ[2]? = some (some (.v (.lst (us.map .int)))) → Z.EP K (tOp (rPlus K) (tLst (tCons (tC (.int 0)) tNil)) (tVar 2)) Γ M (.lst ((0 :: us).map .int)) := fun g => ep_op (ep_lst (eps_cons ep_int eps_nil) (Nat.le_of_ble_eq_true rfl)) (ep_var g) (rv_plus_l (ps := [.int 0]) (by rw [List.length_map, List.length_singleton, sizeLine_eq]; have := hu.1; omega))
    apply sv_seq; apply sv_set; exact ca__law_turns (o0 := o1) (o1 := o0) (us := 0 :: us) (eps_cons (ep_var rfl) (eps_cons (ep_var rfl) (eps_cons (e0 rfl) eps_nil))) k1 k0 h0
    have fo := fun {Γ : Z.Env} {M : Mem} (g2 : Γ[2]? = some (some (.v (.lst (us.map .int))))) (g5 : Γ[5]? = some (some (.v (cP K o0)))) (g6 : Γ[6]? = some (some (.v (cP K o1)))) => ca_first_out (K := K) (Γ := Γ) (M := M) (E := E0) (o0 := o1) (o1 := o0) (us := 0 :: us) (r := false) (eps_cons (ep_var g6) (eps_cons (ep_var g5) (eps_cons (e0 g2) eps_nil))) k1 k0 h0
    unfold tP
    have ez : (tr0 o1 o0 (0 :: us)).1 = flp (tr0 o0 o1 us).1 := ez
    rw [ez]
    rw [ez] at fo
    generalize (tr0 o0 o1 us).1 = x at fo ⊢
    cases x with
    | none =>
      apply sv_seq; apply sv_ifF
      · apply eb_or (b := false) (c := false)
        · exact eb_is (eb_test (ep_op (ep_isN (p := .non) (ef_ep (ep_op (ep_var rfl) ep_int (rv_ixT rfl)))) (ep_isN (p := .non) (ef_ep (ep_op (ep_var rfl) ep_int (rv_ixT rfl)))) (rv_ne_d (n := 8) rfl rfl (by decide)))) rfl
        · intro _; apply eb_andF
          · exact eb_B (ep_notN (p := .non) (ef_ep (ep_op (ep_var rfl) ep_int (rv_ixT rfl))))
          · rfl
      · rfl
      apply sv_next
      apply sv_retP
      · exact ca_law_is (n := 3) (p := .non) (eps_cons (fo rfl rfl rfl) (eps_cons (ep_op (ep_var rfl) ep_int (rv_ixT rfl)) eps_nil)) rfl rfl
      · exact fz_is rfl
    | some y =>
      obtain ⟨cc, ii⟩ := y
      apply sv_seq; apply sv_ifF
      · apply eb_or (b := false) (c := false)
        · exact eb_is (eb_test (ep_op (ep_isN (p := .tup [.int (3 - cc), .int (ii + 1)]) (ef_ep (ep_op (ep_var rfl) ep_int (rv_ixT rfl)))) (ep_isN (p := .tup [.int cc, .int ii]) (ef_ep (ep_op (ep_var rfl) ep_int (rv_ixT rfl)))) (rv_ne_d (n := 8) rfl rfl (by decide)))) rfl
        · intro _; apply eb_and (b := true) (c := false)
          · exact eb_B (ep_notN (p := .tup [.int cc, .int ii]) (ef_ep (ep_op (ep_var rfl) ep_int (rv_ixT rfl))))
          · intro _
            refine eb_is (eb_test (ep_op (ep_op (ep_var rfl) ep_int (rv_ixT (d := .tup [.int (3 - cc), .int (ii + 1)]) rfl)) (ep_tup (eps_cons (ep_op ep_int (ep_op (ep_op (ep_var rfl) ep_int (rv_ixT (d := .tup [.int cc, .int ii]) rfl)) ep_int (rv_ixT rfl)) rv_ii) (eps_cons (ep_op (ep_op (ep_op (ep_var rfl) ep_int (rv_ixT (d := .tup [.int cc, .int ii]) rfl)) ep_int (rv_ixT rfl)) ep_int rv_plus_i) eps_nil)) (Nat.le_of_ble_eq_true rfl)) (rv_ne_d (n := 8) rfl rfl (by decide)))) ?_
            rw [pEq_tt]; rfl
      · rfl
      apply sv_next
      apply sv_retP
      · exact ca_law_is (n := 3) (p := .tup [.int (3 - cc), .int (ii + 1)]) (eps_cons (fo rfl rfl rfl) (eps_cons (ep_op (ep_var rfl) ep_int (rv_ixT rfl)) eps_nil)) rfl rfl
      · exact fz_is rfl
  · intro _
    apply sv_next
    apply sv_retP ep_bl
    exact fz_is rfl
theorem ca__law_two_right {nm : Bool} (hh : EPs K t Γ M [oP o0, oP o1, .lst (us.map .int), .bl nm]) (w0 : wfC o0) (w1 : wfC o1) (hu : useOk us) : Z.EP K (tCall (S_law_two_right K) [] E t) Γ M (.bl true) := ep_call hh (o0, o1, us, nm) rfl ⟨w0, w1, hu⟩ (fun _ h => h)
end
end R78
set_option maxRecDepth 100000
set_option maxHeartbeats 4000000
namespace R78
open PySem PySem.Spec PyProof.Rows L2 Z
section
variable {K : PySem.W.Frag} {Γ : Z.Env} {M : Mem} {E : XK} {t : TA} {a b c d i j h k u v : Int} {r : Bool} {p q : P} {ps qs : List P} {te : TE} {w : Str} {o o0 o1 : Ck} {s s0 s1 : St2} {ns us : List Int} {Φ : Mem → D → Prop} {kd : Kd}
local macro_rules | `(tactic| get_elem_tactic_trivial) => `(tactic| first
  | exact rv_plus_i | exact rv_ii | exact rv_ib | exact rv_eq_ii | exact rv_ne_ii | exact rv_eq_ss | exact rv_ne_ss | exact rv_eq_bb | exact rv_ne_bb | exact rv_ixT rfl | exact rv_ixL rfl
  | exact rv_plus_t (Nat.le_of_ble_eq_true rfl) | exact rv_plus_l (Nat.le_of_ble_eq_true rfl) | exact rv_plus_s (Nat.le_of_ble_eq_true rfl) | exact rv_isB | exact rv_inL rfl rfl | exact rv_inT rfl rfl | exact rv_ic (by decide))
local macro_rules | `(tactic| decreasing_trivial) => `(tactic| first
  | exact rc_len rfl | exact rc_int | exact rc_intB | exact rc_abs | exact rc_tupleL | exact rc_tupleT | exact rc_list rfl | exact rc_max2 | exact rc_min2)
local macro_rules | `(tactic| trivial) => `(tactic| first
  | exact ep_int | exact ep_str | exact ep_bl | exact ep_non
  | exact ep_var rfl
  | (apply ep_op; trivial; trivial; get_elem_tactic_trivial)
  | (apply ep_cb; trivial; decreasing_trivial)
  | (apply ep_andF; trivial; rfl)
  | (apply ep_andV; trivial; intro _; trivial)
  | (apply ep_orT; trivial; rfl)
  | (apply ep_orV; trivial; intro _; trivial)
  | (apply ep_notV; trivial)
  | (apply ep_isN; trivial) | (apply ep_notN; trivial)
  | (apply ep_un; trivial; exact ru_i)
  | (apply ep_tup; trivial; exact Nat.le_of_ble_eq_true rfl) | (apply ep_lst; trivial; exact Nat.le_of_ble_eq_true rfl)
  | (apply ep_chain; trivial; trivial; get_elem_tactic_trivial; intro _; trivial; intro _; get_elem_tactic_trivial)
  | exact eps_nil | (apply eps_cons; trivial; trivial) | (apply eps_star; trivial; rfl; trivial)
  | (apply ef_ep; trivial)
  | (apply eb_B; trivial) | (apply eb_test; trivial)
  | (apply eb_andF; trivial; rfl)
  | (apply eb_and; trivial; intro _; trivial)
  | (apply eb_orT; trivial; rfl)
  | (apply eb_or; trivial; intro _; trivial)
  | (apply eb_not; trivial)
  | (apply ep_ifT; trivial; rfl; trivial) | (apply ep_ifF; trivial; rfl; trivial)
  | (apply ep_ifI; trivial; intro _; trivial; intro _; trivial) | (apply ep_ifL; trivial; intro _; trivial; intro _; trivial)
  | (apply ep_isi_int; trivial; first | rfl | assumption) | (apply ep_isi_bool; trivial; first | rfl | assumption) | (apply ep_isi_tuple; trivial; first | rfl | assumption) | (apply ep_isi_str; trivial; first | rfl | assumption)
  | (apply ep_isi_list; trivial; first | rfl | assumption) | (apply ep_isi_lt; trivial; first | rfl | assumption))
local macro_rules | `(tactic| trivial) => `(tactic| (apply ep_ixC rfl rfl; rfl))
local macro_rules | `(tactic| trivial) => `(tactic| (apply ca_is_integer; trivial; first | rfl | assumption))
local macro_rules | `(tactic| trivial) => `(tactic| (apply ca_is_between; trivial; first | rfl | assumption))
local macro_rules | `(tactic| trivial) => `(tactic| (apply ca_is_list; trivial; first | rfl | assumption))
local macro_rules | `(tactic| trivial) => `(tactic| (apply ca_check_clock; trivial))
local macro_rules | `(tactic| trivial) => `(tactic| (apply ca_first_state; trivial))
theorem ev_uses {x kc n : Nat} {c : MC} {m : Int} {te tf : TE} (e : Γ[x]? = some (some (.c kc))) (hk : Z.EP K te Γ M (kP kd)) (hm : Z.EP K tf Γ M (.int m)) (hc : M[kc]? = some c) (hb : Bx n c) (w : wfD kd) (h0 : 0 ≤ m ∧ m ≤ 400) (hn : n + 410 ≤ 1000000000) (hr : ∀ us c', (us.length : Int) = m → useOk us → Bx (n + 410) c' → Φ (M.set kc c') (.v (.lst (us.map .int)))) :
    EV K (tCall (S_law_uses K) [] E (tCons (tVar x) (tCons te (tCons tf tNil)))) Γ M Φ :=
  ev_bx e (eps_cons hk (eps_cons hm eps_nil)) hc hb (kd, m) rfl ⟨w, h0⟩ hn fun p c' ⟨us, h1, h2, ep⟩ hb' => by subst ep; exact hr us c' h1 h2 hb'
abbrev gRes (K : PySem.W.Frag) (N : Nat) : DE := { nx := fun _ M => P.non = .bl true ∧ ∃ c' M', M = c' :: M' ∧ Bx (N + 850) c', rt := fun M d => ∃ p, Fz 1 M d p ∧ p = .bl true ∧ ∃ c' M', M = c' :: M' ∧ Bx (N + 850) c' }
abbrev S_law_game_right (K : PySem.W.Frag) : Sp := BF K (fun x : Bool => [.bl x]) (fun _ => True) (fun _ => 850) (fun _ r => r = .bl true)
theorem pl__law_game_right (nm : Bool) (N : Nat) (c : MC) (hb : Bx N c) (hn : N + 850 ≤ 1000000000) :
    SV K 1 (t__law_game_right K (S_law_kind K) (S_law_pick K) (S_law_uses K) (S_law_take K) (S_law_needed K) (S_law_two_right K)) (startE 12 [.c 0, .v (.bl nm)]) [c] (gRes K N) := by
  unfold t__law_game_right
  apply sv_seq; apply sv_asg; apply ev_new; apply en_lst
  apply ea_cons; refine ev_kind rfl rfl hb (by omega) fun k0 c1 w0 hb1 => ?_
  apply ea_cons; refine ev_kind rfl rfl hb1 (by omega) fun k1 c2 w1 hb2 => ?_
  apply ea_nil
  refine ⟨Nat.le_of_ble_eq_true rfl, [kP k0, kP k1], rfl, ?_⟩
  apply sv_seq; apply sv_asg
  refine ev_bx rfl (eps_cons (p := .lst (([0, 1, 2, 9, 40] : List Int).map .int)) (ep_lst (eps_cons ep_int (eps_cons ep_int (eps_cons ep_int (eps_cons ep_int (eps_cons ep_int eps_nil))))) (Nat.le_of_ble_eq_true rfl)) eps_nil) rfl hb2 (false, ([0, 1, 2, 9, 40] : List Int).map .int) rfl ⟨Nat.succ_pos _, Nat.le_of_ble_eq_true rfl⟩ (by show N + 10 + 10 + 1 ≤ 1000000000; omega) ?_
  intro q c3 hq hb3
  obtain ⟨m, hm, rfl⟩ := in_ints hq
  have hm2 : 0 ≤ m ∧ m ≤ 40 := by
    simp only [List.mem_cons, List.not_mem_nil, or_false] at hm
    omega
  have hb3 : Bx (N + 21) c3 := hb3
  -- the rows
  apply sv_seq; apply sv_asg; apply ev_new; apply en_lst
  apply ea_cons; apply ev_bxD rfl
  apply ea_cons; apply ev_ep; (exact ep_op (ep_var rfl) ep_int (rv_ixL (d := kP k0) rfl))
  apply ea_cons; apply ev_op; apply ev_ep; (exact ep_var rfl); refine ⟨_, rfl, ?_⟩
  refine ev_take rfl rfl hb3 ⟨by decide, by decide⟩ ep_int (by omega) fun i1 c4 h10 h11 hb4 => ⟨_, rfl, _, rv_plus_i, ?_⟩
  apply ea_nil
  refine ⟨c4, N + 21 + 1, (k0, m + i1), rfl, rfl, hb4, by show N + 21 + 1 + 410 ≤ 1000000000; omega, ⟨w0, by show 0 ≤ m + i1; omega, by show m + i1 ≤ 400; omega⟩, ?_⟩
  rintro _ c5 ⟨u0, hl0, hu0, rfl⟩ hb5
  have hl0 : (u0.length : Int) = m + i1 := hl0
  apply ea_cons
  refine ev_uses rfl (ep_op (ep_var rfl) ep_int (rv_ixL (d := kP k1) rfl)) (ep_var rfl) rfl hb5 w1 ⟨hm2.1, by omega⟩ (by show N + 21 + 1 + 410 + 410 ≤ 1000000000; omega) fun u1 c6 hl1 hu1 hb6 => ?_
  apply ea_nil
  refine ⟨Nat.le_of_ble_eq_true rfl, [.lst (u0.map .int), .lst (u1.map .int)], rfl, ?_⟩
  have hb6 : Bx (N + 842) c6 := hb6
  -- both put together
  apply sv_seq; apply sv_asg; apply ev_cell; apply en_lst; apply ea_ep eps_nil; refine ⟨Nat.zero_le _, ?_⟩
  have row0 : ∀ {Γ : Z.Env} {M : Mem}, Γ[4]? = some (some (.v (.lst [.lst (u0.map .int), .lst (u1.map .int)]))) → Z.EP K (tOp (rIx K) (tVar 4) (tC (.int 0))) Γ M (.lst (u0.map .int)) := fun g => ep_op (ep_var g) ep_int (rv_ixL rfl)
  have row1 : ∀ {Γ : Z.Env} {M : Mem}, Γ[4]? = some (some (.v (.lst [.lst (u0.map .int), .lst (u1.map .int)]))) → Z.EP K (tOp (rIx K) (tVar 4) (tC (.int 1))) Γ M (.lst (u1.map .int)) := fun g => ep_op (ep_var g) ep_int (rv_ixL rfl)
  apply sv_seq; apply sv_for; apply ei_ip
  · exact eip_range1 (eps_cons (ep_op (ep_cb (eps_cons (row0 rfl) eps_nil) (rc_len (n := u0.length) (by simp [lenP]))) (ep_cb (eps_cons (row1 rfl) eps_nil) (rc_len (n := u1.length) (by simp [lenP]))) rv_plus_i) eps_nil) (by omega) (by omega)
  refine ⟨fun i Γ M => ∃ (acc : List Int) (x6 : Option D), acc.length = i ∧ (∀ u ∈ acc, 0 ≤ u ∧ u ≤ 1000000000000) ∧ M = [c6, .l ((acc.map P.int).map .v)] ∧
    Γ = [some (.c 0), some (.v (.bl nm)), some (.v (.lst [kP k0, kP k1])), some (.v (.int m)), some (.v (.lst [.lst (u0.map .int), .lst (u1.map .int)])), some (.c 1), x6, none, none, none, none, none],
    ⟨[], _, rfl, fun u h => by simp at h, rfl, rfl⟩, ?_, ?_⟩
  · rintro i p Γ1 M1 hp2 ⟨acc, x6, hacc, hau, rfl, rfl⟩
    obtain ⟨hi, rfl⟩ := rangeP_at hp2
    rw [Int.zero_add]
    apply gv_name
    have hstep : ∀ u : Int, (0 ≤ u ∧ u ≤ 1000000000000) → NI K 2 (fun Γ M => ∃ (acc : List Int) (x6 : Option D), acc.length = i + 1 ∧ (∀ u ∈ acc, 0 ≤ u ∧ u ≤ 1000000000000) ∧ M = [c6, .l ((acc.map P.int).map .v)] ∧
      Γ = [some (.c 0), some (.v (.bl nm)), some (.v (.lst [kP k0, kP k1])), some (.v (.int m)), some (.v (.lst [.lst (u0.map .int), .lst (u1.map .int)])), some (.c 1), x6, none, none, none, none, none])
      [some (.c 0), some (.v (.bl nm)), some (.v (.lst [kP k0, kP k1])), some (.v (.int m)), some (.v (.lst [.lst (u0.map .int), .lst (u1.map .int)])), some (.c 1), some (.v (.int i)), none, none, none, none, none] [c6, .l ((acc.map P.int).map D.v ++ [.v (.int u)])] := fun u hu =>
        ni_refl ⟨acc ++ [u], _, by rw [List.length_append, hacc]; rfl, fun x hx => by
          rcases List.mem_append.mp hx with h | h
          · exact hau x h
          · rw [List.mem_singleton.mp h]; exact hu, by rw [List.map_append, List.map_append]; rfl, rfl⟩
    have hsz : ((acc.map P.int).map D.v).length < 100000 := by rw [List.length_map, List.length_map, hacc]; omega
    have hlE : (m + i1 = m ∨ m + i1 = m + 1) := by omega
    apply sv_drop; apply ev_bm; apply ev_var rfl; refine ⟨1, _, rfl, rfl, ?_⟩
    have hmod : (i : Int) % 2 = 0 ∨ (i : Int) % 2 = 1 := by omega
    rcases hmod with hmod | hmod
    · have hk : i / 2 < u0.length := by omega
      have hix : atI (u0.map P.int) ((i : Int) / 2) = some (.int u0[i / 2]) := atI_nat (j := i / 2) (by rw [List.getElem?_map, List.getElem?_eq_getElem hk]; rfl)
      apply ea_ep (eps_cons (ep_op (ep_op (ep_var rfl) (ep_op (ep_cb (eps_cons (ep_var rfl) eps_nil) rc_int) ep_int (rv_ic (by decide))) (rv_ixL (d := .lst (u0.map .int)) (by rw [hmod]; rfl))) (ep_op (ep_var rfl) ep_int (rv_ic ⟨by decide, by decide⟩)) (rv_ixL hix)) eps_nil)
      exact ⟨_, _, _, rfl, mv_append hsz, hstep _ (hu0.2 _ (List.getElem_mem _))⟩
    · have hk : i / 2 < u1.length := by omega
      have hix : atI (u1.map P.int) ((i : Int) / 2) = some (.int u1[i / 2]) := atI_nat (j := i / 2) (by rw [List.getElem?_map, List.getElem?_eq_getElem hk]; rfl)
      apply ea_ep (eps_cons (ep_op (ep_op (ep_var rfl) (ep_op (ep_cb (eps_cons (ep_var rfl) eps_nil) rc_int) ep_int (rv_ic (by decide))) (rv_ixL (d := .lst (u1.map .int)) (by rw [hmod]; rfl))) (ep_op (ep_var rfl) ep_int (rv_ic ⟨by decide, by decide⟩)) (rv_ixL hix)) eps_nil)
      exact ⟨_, _, _, rfl, mv_append hsz, hstep _ (hu1.2 _ (List.getElem_mem _))⟩
  rintro Γ1 M1 ⟨acc, x6, hacc, hau, rfl, rfl⟩
  rw [rangeP_len] at hacc
  have hU : useOk acc := ⟨by omega, hau⟩
  refine sv_nrm (nrm_freeze (M0 := [c6]) (ps := acc.map P.int) (Γ' := [some (.c 0), some (.v (.bl nm)), some (.v (.lst [kP k0, kP k1])), some (.v (.int m)), some (.v (.lst [.lst (u0.map .int), .lst (u1.map .int)])), some (.v (.lst (acc.map .int))), none, none, none, none, none, none]) (Nat.le_refl _) rfl (by simp [bx_low hb6]) fun i d e => ?_) ?_
  · match i, e with
    | 0, e => cases e; exact .inl ⟨rfl, rfl⟩
    | 1, e => cases e; exact .inl ⟨rfl, rfl⟩
    | 2, e => cases e; exact .inl ⟨rfl, rfl⟩
    | 3, e => cases e; exact .inl ⟨rfl, rfl⟩
    | 4, e => cases e; exact .inl ⟨rfl, rfl⟩
    | 5, e => cases e; exact .inr ⟨rfl, rfl⟩
    | 6, e => cases e
    | 7, e => cases e
    | 8, e => cases e
    | 9, e => cases e
    | 10, e => cases e
    | 11, e => cases e
    | i + 12, e => cases e
  -- what both need
  obtain ⟨v0, hv0⟩ := exNeed w0 hu0
  obtain ⟨v1, hv1⟩ := exNeed w1 hu1
  apply sv_seq; apply sv_set
  · refine ep_lcU (outs := [.int v0, .int v1]) (tgt_name (by decide)) (eip_range1 (eps_cons ep_int eps_nil) (by decide) (by decide)) (Nat.le_of_ble_eq_true rfl) (lcU_take ?_ (lcU_take ?_ .nil))
    · apply gv_name; exact ca__law_needed (kd := k0) (us := u0) (eps_cons (ep_op (ep_var rfl) (ep_var rfl) (rv_ixL rfl)) (eps_cons (ep_op (ep_var rfl) (ep_var rfl) (rv_ixL rfl)) eps_nil)) w0 hu0 hv0
    · apply gv_name; exact ca__law_needed (kd := k1) (us := u1) (eps_cons (ep_op (ep_var rfl) (ep_var rfl) (rv_ixL rfl)) (eps_cons (ep_op (ep_var rfl) (ep_var rfl) (rv_ixL rfl)) eps_nil)) w1 hu1 hv1
  have n0 := hv0.1
  have n1 := hv1.1
  apply sv_seq
  refine SV.imp (E := { nx := fun Γ M => M = [c6] ∧ ∃ (a0 a1 : Int), 0 ≤ a0 ∧ a0 ≤ 100000 ∧ 0 ≤ a1 ∧ a1 ≤ 100000 ∧ Γ = [some (.c 0), some (.v (.bl nm)), some (.v (.lst [kP k0, kP k1])), some (.v (.int m)), some (.v (.lst [.lst (u0.map .int), .lst (u1.map .int)])), some (.v (.lst (acc.map .int))), none, some (.v (.lst [.int a0, .int a1])), none, none, none, none], rt := fun _ _ => False }) ?_ ?_ (fun _ _ h => h.elim) (fun _ _ h => h.elim) (fun _ _ h => h.elim)
  · refine sv_ifB (b := decide (100000 < max v0 v1)) (eb_test (ep_op (ep_cast (ep_cb (eps_cons (p := .lst (([v0, v1] : List Int).map .int)) (ep_var rfl) eps_nil) (rc_maxL (Nat.succ_pos _))) rfl) ep_int rv_ib)) ?_ ?_
    · intro _
      apply sv_set
      · refine ep_lcU (outs := [.int (min 100000 v0), .int (min 100000 v1)]) (tgt_name (by decide)) (eip_seq (ep_var rfl) rfl) (Nat.le_of_ble_eq_true rfl) (lcU_take ?_ (lcU_take ?_ .nil))
        · apply gv_name; exact ep_cast (ep_cb (eps_cons ep_int (eps_cons (ep_var rfl) eps_nil)) rc_min2) (by rw [min_if])
        · apply gv_name; exact ep_cast (ep_cb (eps_cons ep_int (eps_cons (ep_var rfl) eps_nil)) rc_min2) (by rw [min_if])
      exact ⟨rfl, min 100000 v0, min 100000 v1, by omega, by omega, by omega, by omega, rfl⟩
    · intro hx
      have hx : ¬ 100000 < max v0 v1 := of_decide_eq_false hx
      apply sv_next
      exact ⟨rfl, v0, v1, n0, by omega, n1, by omega, rfl⟩
  rintro Γ1 M1 ⟨rfl, a0, a1, g1, g2, g3, g4, rfl⟩
  apply sv_seq
  refine sv_for (ei_ip (eip_seq (p := .lst [.tup [.int 0, .int 0], .tup [.int 1, .int 0], .tup [.int 0, .int 1], .tup [.int 1, .int 1]]) (by trivial) rfl) ?_)
  refine ⟨fun i Γ M => M = [c6] ∧ ∃ (nm : Bool) (x8 x9 : Option D), Γ = [some (.c 0), some (.v (.bl nm)), some (.v (.lst [kP k0, kP k1])), some (.v (.int m)), some (.v (.lst [.lst (u0.map .int), .lst (u1.map .int)])), some (.v (.lst (acc.map .int))), none, some (.v (.lst [.int a0, .int a1])), x8, x9, none, none], ⟨rfl, _, _, _, rfl⟩, ?_, ?_⟩
  · rintro i p Γ1 M1 hp ⟨rfl, nm, x8, x9, rfl⟩
    obtain ⟨l0, l1, ⟨hl00, hl01⟩, ⟨hl10, hl11⟩, rfl⟩ : ∃ l0 l1 : Int, (0 ≤ l0 ∧ l0 ≤ 1) ∧ (0 ≤ l1 ∧ l1 ≤ 1) ∧ p = .tup [.int l0, .int l1] := by
      match i, hp with
      | 0, hp => cases hp; exact ⟨0, 0, by decide, by decide, rfl⟩
      | 1, hp => cases hp; exact ⟨1, 0, by decide, by decide, rfl⟩
      | 2, hp => cases hp; exact ⟨0, 1, by decide, by decide, rfl⟩
      | 3, hp => cases hp; exact ⟨1, 1, by decide, by decide, rfl⟩
    apply gv_name
    have q0 : wfC (at_ k0 (max 0 (a0 - l0))) := wfC_at w0 (by omega) (by omega)
    have q1 : wfC (at_ k1 (max 0 (a1 - l1))) := wfC_at w1 (by omega) (by omega)
    apply sv_seq; apply sv_set
    · refine ep_lcU (outs := [oP (at_ k0 (max 0 (a0 - l0))), oP (at_ k1 (max 0 (a1 - l1)))]) (tgt_name (by decide)) (eip_range1 (eps_cons ep_int eps_nil) (by decide) (by decide)) (Nat.le_of_ble_eq_true rfl) (lcU_take ?_ (lcU_take ?_ .nil))
      · apply gv_name
        exact ep_op (ep_tup (eps_cons (ep_cast (ep_cb (eps_cons ep_int (eps_cons (ep_op (ep_op (ep_var rfl) (ep_var rfl) (rv_ixL rfl)) (ep_op (ep_var rfl) (ep_var rfl) (rv_ixT rfl)) rv_ii) eps_nil)) rc_max2) (by rw [max_if])) eps_nil) (Nat.le_of_ble_eq_true rfl)) (ep_op (ep_var rfl) (ep_var rfl) (rv_ixL (d := kP k0) rfl)) (rv_plus_t (ps := [.int (max 0 (a0 - l0))]) (qs := [.int k0.b, .int k0.p, .int k0.l]) (Nat.le_of_ble_eq_true rfl))
      · apply gv_name
        exact ep_op (ep_tup (eps_cons (ep_cast (ep_cb (eps_cons ep_int (eps_cons (ep_op (ep_op (ep_var rfl) (ep_var rfl) (rv_ixL rfl)) (ep_op (ep_var rfl) (ep_var rfl) (rv_ixT rfl)) rv_ii) eps_nil)) rc_max2) (by rw [max_if])) eps_nil) (Nat.le_of_ble_eq_true rfl)) (ep_op (ep_var rfl) (ep_var rfl) (rv_ixL (d := kP k1) rfl)) (rv_plus_t (ps := [.int (max 0 (a1 - l1))]) (qs := [.int k1.b, .int k1.p, .int k1.l]) (Nat.le_of_ble_eq_true rfl))
    apply sv_seq; apply sv_ifF
    · apply eb_not (b := true); apply eb_B
      exact ca__law_two_right (us := acc) (nm := nm) (eps_cons (ep_op (ep_var rfl) ep_int (rv_ixL rfl)) (eps_cons (ep_op (ep_var rfl) ep_int (rv_ixL rfl)) (eps_cons (ep_var rfl) (eps_cons (ep_var rfl) eps_nil)))) q0 q1 hU
    · rfl
    apply sv_next
    apply sv_set; exact ep_notV (ep_var rfl)
    exact ni_refl ⟨rfl, _, _, _, rfl⟩
  · rintro Γ1 M1 ⟨rfl, nm, x8, x9, rfl⟩
    apply sv_retP ep_bl
    exact ⟨_, .v _, rfl, c6, [], rfl, Bx.mono hb6 (by omega)⟩
end
end R78
set_option maxRecDepth 100000
set_option maxHeartbeats 4000000
namespace R78
open PySem PySem.Spec PyProof.Rows L2 Z
section
variable {K : PySem.W.Frag} {Γ : Z.Env} {M : Mem} {E : XK} {t : TA} {a b c d i j h k u v : Int} {r : Bool} {p q : P} {ps qs : List P} {te : TE} {w : Str} {o o0 o1 : Ck} {s s0 s1 : St2} {ns us : List Int} {Φ : Mem → D → Prop} {kd : Kd}
local macro_rules | `(tactic| get_elem_tactic_trivial) => `(tactic| first
  | exact rv_plus_i | exact rv_ii | exact rv_ib | exact rv_eq_ii | exact rv_ne_ii | exact rv_eq_ss | exact rv_ne_ss | exact rv_eq_bb | exact rv_ne_bb | exact rv_ixT rfl | exact rv_ixL rfl
  | exact rv_plus_t (Nat.le_of_ble_eq_true rfl) | exact rv_plus_l (Nat.le_of_ble_eq_true rfl) | exact rv_plus_s (Nat.le_of_ble_eq_true rfl) | exact rv_isB | exact rv_inL rfl rfl | exact rv_inT rfl rfl | exact rv_ic (by decide))
local macro_rules | `(tactic| decreasing_trivial) => `(tactic| first
  | exact rc_len rfl | exact rc_int | exact rc_intB | exact rc_abs | exact rc_tupleL | exact rc_tupleT | exact rc_list rfl | exact rc_max2 | exact rc_min2)
local macro_rules | `(tactic| trivial) => `(tactic| first
  | exact ep_int | exact ep_str | exact ep_bl | exact ep_non
  | exact ep_var rfl
  | (apply ep_op; trivial; trivial; get_elem_tactic_trivial)
  | (apply ep_cb; trivial; decreasing_trivial)
  | (apply ep_andF; trivial; rfl)
  | (apply ep_andV; trivial; intro _; trivial)
  | (apply ep_orT; trivial; rfl)
  | (apply ep_orV; trivial; intro _; trivial)
  | (apply ep_notV; trivial)
  | (apply ep_isN; trivial) | (apply ep_notN; trivial)
  | (apply ep_un; trivial; exact ru_i)
  | (apply ep_tup; trivial; exact Nat.le_of_ble_eq_true rfl) | (apply ep_lst; trivial; exact Nat.le_of_ble_eq_true rfl)
  | (apply ep_chain; trivial; trivial; get_elem_tactic_trivial; intro _; trivial; intro _; get_elem_tactic_trivial)
  | exact eps_nil | (apply eps_cons; trivial; trivial) | (apply eps_star; trivial; rfl; trivial)
  | (apply ef_ep; trivial)
  | (apply eb_B; trivial) | (apply eb_test; trivial)
  | (apply eb_andF; trivial; rfl)
  | (apply eb_and; trivial; intro _; trivial)
  | (apply eb_orT; trivial; rfl)
  | (apply eb_or; trivial; intro _; trivial)
  | (apply eb_not; trivial)
  | (apply ep_ifT; trivial; rfl; trivial) | (apply ep_ifF; trivial; rfl; trivial)
  | (apply ep_ifI; trivial; intro _; trivial; intro _; trivial) | (apply ep_ifL; trivial; intro _; trivial; intro _; trivial)
  | (apply ep_isi_int; trivial; first | rfl | assumption) | (apply ep_isi_bool; trivial; first | rfl | assumption) | (apply ep_isi_tuple; trivial; first | rfl | assumption) | (apply ep_isi_str; trivial; first | rfl | assumption)
  | (apply ep_isi_list; trivial; first | rfl | assumption) | (apply ep_isi_lt; trivial; first | rfl | assumption))
local macro_rules | `(tactic| trivial) => `(tactic| (apply ep_ixC rfl rfl; rfl))
local macro_rules | `(tactic| trivial) => `(tactic| (apply ca_is_integer; trivial; first | rfl | assumption))
local macro_rules | `(tactic| trivial) => `(tactic| (apply ca_is_between; trivial; first | rfl | assumption))
local macro_rules | `(tactic| trivial) => `(tactic| (apply ca_is_list; trivial; first | rfl | assumption))
local macro_rules | `(tactic| trivial) => `(tactic| (apply ca_check_clock; trivial))
local macro_rules | `(tactic| trivial) => `(tactic| (apply ca_first_state; trivial))
abbrev Slaw (K : PySem.W.Frag) : Sp := PF K (fun ns : List Int => [.scr (ns.map .int)]) (fun ns => ns.length ≤ 63) (fun _ r => r = .bl true)
theorem pl_law (ns : List Int) (hl : ns.length ≤ 63) : SV K 0 (t_law K (S_law_box K) (S_law_cell K) (S_law_take K) (S_law_kind K) (S_law_main_right K) (S_law_uses K) (S_law_game_right K) (S_law_two_right K) (S_law_clock K)) (startE 7 [.v (.scr (ns.map .int))]) [] (DR (· = .bl true)) := by
  unfold t_law
  have hlen : Z.EP K (tCB (rMaxA K) (tCons (tC (.int 2)) (tCons (tCB (rMinA K) (tCons (tC (.int 3)) (tCons (tCB (rLen K) (tCons (tVar 0) tNil)) tNil))) tNil))) (startE 7 [.v (.scr (ns.map .int))]) [] (.int (max 2 (min 3 (ns.length : Int)))) := by
    refine ep_cast (ep_cb (eps_cons ep_int (eps_cons (ep_cast (ep_cb (eps_cons ep_int (eps_cons (ep_cb (eps_cons (ep_var rfl) eps_nil) (rc_len (n := ns.length) (by simp [lenP]))) eps_nil)) rc_min2) (by rw [min_if])) eps_nil)) rc_max2) ?_
    rw [max_if]
  apply sv_seq; apply sv_for; apply ei_ip; exact eip_range1 (eps_cons hlen eps_nil) (by omega) (by omega)
  refine ⟨fun i Γ M => M = [] ∧ ∃ x1, Γ = [some (.v (.scr (ns.map .int))), x1, none, none, none, none, none], ⟨rfl, none, rfl⟩, ?_, ?_⟩
  · rintro i p Γ1 M1 hp ⟨rfl, x1, rfl⟩
    obtain ⟨hi, rfl⟩ := rangeP_at hp
    apply gv_name
    apply sv_seq; apply sv_asg; apply ev_callC; apply ea_cons
    refine ca_law_cell (ns := ns) (k := 0 + (i : Nat)) (eps_cons (ep_var rfl) (eps_cons (ep_var rfl) eps_nil)) (by omega) fun g => ?_
    apply ea_nil
    refine ⟨g, rfl, True.intro, ?_⟩
    rintro cs d ⟨c0, rfl, hb0, rfl⟩
    show SV K 0 _ _ ([] ++ [shC 0 c0]) _
    rw [bx_sh hb0]
    apply sv_seq; apply sv_asg; apply ev_op
    refine ev_take rfl rfl hb0 ⟨by decide, by decide⟩ ep_int (by decide) fun x c1 x0 x1 hb1 => ⟨_, rfl, ?_⟩
    apply ev_ep; trivial; refine ⟨_, rfl, _, rv_eq_ii, ?_⟩
    generalize decide (x = 0) = nm0
    -- the main times
    apply sv_seq
    refine sv_for (EI.imp (Φ := fun M' its => ∃ (c' : MC) (ms : List Int), M' = [c'] ∧ its = ms.map .int ∧ ms.length = 4 ∧ (∀ m ∈ ms, 0 ≤ m ∧ m ≤ 400) ∧ Bx 10 c') ?_ ?_)
    · apply ei_seq; apply ev_tup
      apply ea_cons; apply ev_ep; trivial
      apply ea_cons; apply ev_ep; trivial
      apply ea_cons; apply ev_op; apply ev_ep; trivial; refine ⟨_, rfl, ?_⟩
      refine ev_take rfl rfl hb1 ⟨by decide, by decide⟩ ep_int (by decide) fun y c2 y0 y1 hb2 => ⟨_, rfl, _, rv_plus_i, ?_⟩
      have fin : ∀ (z : Int) (c3 : MC), 0 ≤ z ∧ z ≤ 400 → Bx 10 c3 → EA K tNil [some (.v (.scr (ns.map .int))), some (.v (.int (0 + (i : Nat)))), some (.c 0), some (.v (.bl nm0)), none, none, none] [c3] fun M2 ds => ∃ ps, D.v (.int 0) :: D.v (.int 1) :: D.v (.int (2 + y)) :: D.v (.int z) :: ds = ps.map .v ∧ ps.length ≤ sizeLine ∧ ∃ p ps_1, D.v (.tup ps) = .v p ∧ itemsP p = some ps_1 ∧ ∃ (c' : MC) (ms : List Int), M2 = [c'] ∧ ps_1 = ms.map .int ∧ ms.length = 4 ∧ (∀ m ∈ ms, 0 ≤ m ∧ m ≤ 400) ∧ Bx 10 c' := by
        intro z c3 hz hb3
        apply ea_nil
        refine ⟨[.int 0, .int 1, .int (2 + y), .int z], rfl, Nat.le_of_ble_eq_true rfl, _, _, rfl, rfl, c3, [0, 1, 2 + y, z], rfl, rfl, rfl, fun m hm => ?_, hb3⟩
        simp only [List.mem_cons, List.not_mem_nil, or_false] at hm
        omega
      apply ea_cons; apply ev_if; apply et_and
      refine et_eb (b := decide ((0 + (i : Nat) : Int) = 0)) (by trivial) ?_
      by_cases hk : (0 + (i : Nat) : Int) = 0
      · rw [if_pos (decide_eq_true hk)]
        apply et_test; apply ev_op
        refine ev_take rfl rfl hb2 ⟨by decide, by decide⟩ ep_int (by decide) fun z c3 z0 z1 hb3 => ⟨_, rfl, ?_⟩
        apply ev_ep; trivial; refine ⟨_, rfl, _, rv_eq_ii, _, rfl, ?_⟩
        by_cases hz : z = 0
        · rw [if_pos (decide_eq_true hz)]
          exact ev_ep ep_int (fin 400 c3 ⟨by decide, by decide⟩ (Bx.mono hb3 (by decide)))
        · rw [if_neg (by simpa using hz)]
          exact ev_ep ep_int (fin 30 c3 ⟨by decide, by decide⟩ (Bx.mono hb3 (by decide)))
      · rw [if_neg (by simpa using hk)]
        rw [if_neg (by decide)]
        exact ev_ep ep_int (fin 30 c2 ⟨by decide, by decide⟩ (Bx.mono hb2 (by decide)))
    rintro M' its ⟨c4, ms, rfl, rfl, hml, hms, hb4⟩
    refine ⟨fun j Γ M => ∃ (c5 : MC) (nm : Bool) (x4 x5 : Option D), M = [c5] ∧ Bx (10 + 900 * j) c5 ∧ Γ = [some (.v (.scr (ns.map .int))), some (.v (.int (0 + (i : Nat)))), some (.c 0), some (.v (.bl nm)), x4, x5, none], ⟨c4, nm0, _, _, rfl, hb4, rfl⟩, ?_, ?_⟩
    · rintro j p Γ1 M1 hp ⟨c5, nm, x4, x5, rfl, hb5, rfl⟩
      have hj : j < 4 := by
        have := (List.getElem?_eq_some_iff.mp hp).1
        rwa [List.length_map, hml] at this
      obtain ⟨m, hm, rfl⟩ := in_ints (List.mem_of_getElem? hp)
      have hm2 := hms m hm
      apply gv_name
      apply sv_seq; apply sv_asg; refine ev_kind rfl rfl hb5 (by omega) fun kd c6 w hb6 => ?_
      apply sv_seq; apply sv_if; apply et_not; apply et_B; apply ev_bxD rfl
      apply ea_cons; apply ev_ep; (exact ep_var rfl)
      apply ea_cons; refine ev_uses rfl (ep_var rfl) (ep_var rfl) rfl hb6 w hm2 (by omega) fun us c7 hul hu hb7 => ?_
      apply ea_ep (eps_cons (ep_var rfl) eps_nil)
      refine ⟨c7, 10 + 900 * j + 10 + 410, (kd, us, nm), rfl, rfl, hb7, by show 10 + 900 * j + 10 + 410 + 410 ≤ 1000000000; omega, ⟨w, hu⟩, ?_⟩
      rintro _ c8 rfl hb8
      have hb8 : Bx (10 + 900 * j + 830) c8 := hb8
      refine ⟨true, rfl, ?_⟩
      rw [if_neg (by decide)]
      apply sv_next
      apply sv_set; exact ep_notV (ep_var rfl)
      exact ni_refl ⟨c8, _, _, _, rfl, Bx.mono hb8 (by omega), rfl⟩
    rintro Γ1 M1 ⟨c5, nm, x4, x5, rfl, hb5, rfl⟩
    rw [List.length_map, hml] at hb5
    have hb5 : Bx 3610 c5 := hb5
    -- the games
    apply sv_seq; apply sv_for; apply ei_ip; exact eip_range1 (eps_cons ep_int eps_nil) (by decide) (by decide)
    refine ⟨fun j Γ M => ∃ (c6 : MC) (x6 : Option D), M = [c6] ∧ Bx (3610 + 850 * j) c6 ∧ Γ = [some (.v (.scr (ns.map .int))), some (.v (.int (0 + (i : Nat)))), some (.c 0), some (.v (.bl nm)), x4, x5, x6], ⟨c5, _, rfl, hb5, rfl⟩, ?_, ?_⟩
    · rintro j p Γ1 M1 hp ⟨c6, x6, rfl, hb6, rfl⟩
      obtain ⟨hj, rfl⟩ := rangeP_at hp
      have hj : j < 3 := hj
      apply gv_name
      apply sv_if; apply et_not; apply et_B
      refine ev_bx rfl (eps_cons (ep_var rfl) eps_nil) rfl hb6 nm rfl True.intro (by show 3610 + 850 * j + 850 ≤ 1000000000; omega) ?_
      rintro _ c7 rfl hb7
      refine ⟨true, rfl, ?_⟩
      rw [if_neg (by decide)]
      apply sv_next
      exact ni_refl ⟨c7, _, rfl, Bx.mono hb7 (by show 3610 + 850 * j + 850 ≤ _; omega), rfl⟩
    rintro Γ1 M1 ⟨c6, x6, rfl, hb6, rfl⟩
    rw [rangeP_len] at hb6
    have hb6 : Bx 6160 c6 := hb6
    -- two clocks
    apply sv_if; apply et_not; apply et_B; apply ev_call
    apply ea_cons; refine ev_clock rfl rfl hb6 (by decide) fun o1 c7 w1 hb7 => ?_
    apply ea_cons; refine ev_clock rfl rfl hb7 (by decide) fun o2 c8 w2 hb8 => ?_
    apply ea_cons; apply ev_bxD rfl
    apply ea_cons; refine ev_kind rfl rfl hb8 (by decide) fun kd c9 w hb9 => ?_
    apply ea_ep (eps_cons ep_int eps_nil)
    refine ⟨c9, 6160 + 10 + 10 + 10, (kd, 20), rfl, rfl, hb9, by decide, ⟨w, by show (0 : Int) ≤ 20; decide, by show (20 : Int) ≤ 400; decide⟩, ?_⟩
    rintro _ c10 ⟨us, hul, hu, rfl⟩ hb10
    apply ea_ep (eps_cons (ep_var rfl) eps_nil)
    refine ⟨(o1, o2, us, nm), rfl, ⟨w1, w2, hu⟩, ?_⟩
    rintro _ rfl
    refine ⟨true, rfl, ?_⟩
    rw [if_neg (by decide)]
    apply sv_next
    refine ⟨[some (.v (.scr (ns.map .int))), some (.v (.int (0 + (i : Nat)))), none, none, none, none, none], [], nrm_drop (M0 := []) (C := [c10]) (Nat.le_refl _) rfl rfl fun i d e => ?_, rfl, _, rfl⟩
    match i, e with
    | 0, e => cases e; exact ⟨rfl, rfl⟩
    | 1, e => cases e; exact ⟨rfl, rfl⟩
    | 2, e => cases e
    | 3, e => cases e
    | 4, e => cases e
    | 5, e => cases e
    | 6, e => cases e
    | i + 7, e => cases e
  · rintro Γ1 M1 ⟨rfl, x1, rfl⟩
    apply sv_retP; trivial; exact fz_is rfl
end
end R78
set_option maxRecDepth 100000
set_option maxHeartbeats 0
namespace R78
open PySem PySem.Spec PyProof.Rows L2 Z
def d_is_integer : He.DefD := ⟨("is_integer", none), "is_integer", "is_integer", defArgs s_is_integer, defBody s_is_integer, defScope s_is_integer, [], []⟩
def d_is_between : He.DefD := ⟨("is_between", none), "is_between", "is_between", defArgs s_is_between, defBody s_is_between, defScope s_is_between, [], []⟩
def d_is_list : He.DefD := ⟨("is_list", none), "is_list", "is_list", defArgs s_is_list, defBody s_is_list, defScope s_is_list, [], []⟩
def d_are_between : He.DefD := ⟨("are_between", none), "are_between", "are_between", defArgs s_are_between, defBody s_are_between, defScope s_are_between, [], []⟩
def d_other_color : He.DefD := ⟨("other_color", none), "other_color", "other_color", defArgs s_other_color, defBody s_other_color, defScope s_other_color, [], []⟩
def d_check_periods : He.DefD := ⟨("check_periods", none), "check_periods", "check_periods", defArgs s_check_periods, defBody s_check_periods, defScope s_check_periods, [], []⟩
def d_Clock__init__ : He.DefD := ⟨("Clock", some "__init__"), "__init__", "Clock.__init__", defArgs s_Clock__init__, defBody s_Clock__init__, defScope s_Clock__init__, [], []⟩
def d_check_clock : He.DefD := ⟨("check_clock", none), "check_clock", "check_clock", defArgs s_check_clock, defBody s_check_clock, defScope s_check_clock, [], []⟩
def d_check_uses : He.DefD := ⟨("check_uses", none), "check_uses", "check_uses", defArgs s_check_uses, defBody s_check_uses, defScope s_check_uses, [], []⟩
def d_first_state : He.DefD := ⟨("first_state", none), "first_state", "first_state", defArgs s_first_state, defBody s_first_state, defScope s_first_state, [], []⟩
def d_lost_with : He.DefD := ⟨("lost_with", none), "lost_with", "lost_with", defArgs s_lost_with, defBody s_lost_with, defScope s_lost_with, [], []⟩
def d_next_state : He.DefD := ⟨("next_state", none), "next_state", "next_state", defArgs s_next_state, defBody s_next_state, defScope s_next_state, [], []⟩
def d_states_in : He.DefD := ⟨("states_in", none), "states_in", "states_in", defArgs s_states_in, defBody s_states_in, defScope s_states_in, [], []⟩
def d_run_out : He.DefD := ⟨("run_out", none), "run_out", "run_out", defArgs s_run_out, defBody s_run_out, defScope s_run_out, [], []⟩
def d_check_clocks : He.DefD := ⟨("check_clocks", none), "check_clocks", "check_clocks", defArgs s_check_clocks, defBody s_check_clocks, defScope s_check_clocks, [], []⟩
def d_game_of : He.DefD := ⟨("game_of", none), "game_of", "game_of", defArgs s_game_of, defBody s_game_of, defScope s_game_of, [], []⟩
def d_first_out : He.DefD := ⟨("first_out", none), "first_out", "first_out", defArgs s_first_out, defBody s_first_out, defScope s_first_out, [], []⟩
def d_states_left : He.DefD := ⟨("states_left", none), "states_left", "states_left", defArgs s_states_left, defBody s_states_left, defScope s_states_left, [], []⟩
def d_Values__init__ : He.DefD := ⟨("Values", some "__init__"), "__init__", "Values.__init__", defArgs s_Values__init__, defBody s_Values__init__, defScope s_Values__init__, [], []⟩
def d_needed_main : He.DefD := ⟨("needed_main", none), "needed_main", "needed_main", defArgs s_needed_main, defBody s_needed_main, defScope s_needed_main, [], []⟩
def d__law_cell : He.DefD := ⟨("_law_cell", none), "_law_cell", "_law_cell", defArgs s__law_cell, defBody s__law_cell, defScope s__law_cell, [], []⟩
def d__law_box : He.DefD := ⟨("_law_box", none), "_law_box", "_law_box", defArgs s__law_box, defBody s__law_box, defScope s__law_box, [], []⟩
def d__law_take : He.DefD := ⟨("_law_take", none), "_law_take", "_law_take", defArgs s__law_take, defBody s__law_take, defScope s__law_take, [], []⟩
def d__law_pick : He.DefD := ⟨("_law_pick", none), "_law_pick", "_law_pick", defArgs s__law_pick, defBody s__law_pick, defScope s__law_pick, [], []⟩
def d__law_whole : He.DefD := ⟨("_law_whole", none), "_law_whole", "_law_whole", defArgs s__law_whole, defBody s__law_whole, defScope s__law_whole, [], []⟩
def d__law_is : He.DefD := ⟨("_law_is", none), "_law_is", "_law_is", defArgs s__law_is, defBody s__law_is, defScope s__law_is, [], []⟩
def d__law_run : He.DefD := ⟨("_law_run", none), "_law_run", "_law_run", defArgs s__law_run, defBody s__law_run, defScope s__law_run, [], []⟩
def d__law_states : He.DefD := ⟨("_law_states", none), "_law_states", "_law_states", defArgs s__law_states, defBody s__law_states, defScope s__law_states, [], []⟩
def d__law_clock : He.DefD := ⟨("_law_clock", none), "_law_clock", "_law_clock", defArgs s__law_clock, defBody s__law_clock, defScope s__law_clock, [], []⟩
def d__law_clock_of : He.DefD := ⟨("_law_clock_of", none), "_law_clock_of", "_law_clock_of", defArgs s__law_clock_of, defBody s__law_clock_of, defScope s__law_clock_of, [], []⟩
def d__law_uses_near : He.DefD := ⟨("_law_uses_near", none), "_law_uses_near", "_law_uses_near", defArgs s__law_uses_near, defBody s__law_uses_near, defScope s__law_uses_near, [], []⟩
def d__law_needed : He.DefD := ⟨("_law_needed", none), "_law_needed", "_law_needed", defArgs s__law_needed, defBody s__law_needed, defScope s__law_needed, [], []⟩
def d__law_kind : He.DefD := ⟨("_law_kind", none), "_law_kind", "_law_kind", defArgs s__law_kind, defBody s__law_kind, defScope s__law_kind, [], []⟩
def d__law_uses : He.DefD := ⟨("_law_uses", none), "_law_uses", "_law_uses", defArgs s__law_uses, defBody s__law_uses, defScope s__law_uses, [], []⟩
def d__law_needed_told : He.DefD := ⟨("_law_needed_told", none), "_law_needed_told", "_law_needed_told", defArgs s__law_needed_told, defBody s__law_needed_told, defScope s__law_needed_told, [], []⟩
def d__law_main_right : He.DefD := ⟨("_law_main_right", none), "_law_main_right", "_law_main_right", defArgs s__law_main_right, defBody s__law_main_right, defScope s__law_main_right, [], []⟩
def d__law_turns : He.DefD := ⟨("_law_turns", none), "_law_turns", "_law_turns", defArgs s__law_turns, defBody s__law_turns, defScope s__law_turns, [], []⟩
def d__law_two_right : He.DefD := ⟨("_law_two_right", none), "_law_two_right", "_law_two_right", defArgs s__law_two_right, defBody s__law_two_right, defScope s__law_two_right, [], []⟩
def d__law_game_right : He.DefD := ⟨("_law_game_right", none), "_law_game_right", "_law_game_right", defArgs s__law_game_right, defBody s__law_game_right, defScope s__law_game_right, [], []⟩
def d_law : He.DefD := ⟨("law", none), "law", "law", defArgs s_law, defBody s_law, defScope s_law, [], []⟩
def fn : List He.DefD := [d_is_integer, d_is_between, d_is_list, d_are_between, d_other_color, d_check_periods, d_Clock__init__, d_check_clock, d_check_uses, d_first_state, d_lost_with, d_next_state, d_states_in, d_run_out, d_check_clocks, d_game_of, d_first_out, d_states_left, d_Values__init__, d_needed_main, d__law_cell, d__law_box, d__law_take, d__law_pick, d__law_whole, d__law_is, d__law_run, d__law_states, d__law_clock, d__law_clock_of, d__law_uses_near, d__law_needed, d__law_kind, d__law_uses, d__law_needed_told, d__law_main_right, d__law_turns, d__law_two_right, d__law_game_right, d_law]
def fa : List He.Fa := [.free "abs", .free "all", .free "bool", .free "enumerate", .free "int", .free "isinstance", .free "len", .free "list", .free "max", .free "min", .free "range", .free "str", .free "sum", .free "tuple", .int "BLACK" 1, .int "MOST_BONUS" 10000, .int "MOST_LENGTH" 10000, .int "MOST_MAIN" 100000, .int "MOST_PERIODS" 100, .int "MOST_USED" 1000000000000, .int "MOST_USES" 400, .int "WHITE" 2, .glo "is_integer", .glo "is_between", .glo "is_list", .glo "are_between", .glo "other_color", .glo "check_periods", .glo "check_clock", .glo "check_uses", .glo "first_state", .glo "lost_with", .glo "next_state", .glo "states_in", .glo "run_out", .glo "check_clocks", .glo "game_of", .glo "first_out", .glo "states_left", .glo "needed_main", .glo "_law_cell", .glo "_law_box", .glo "_law_take", .glo "_law_pick", .glo "_law_whole", .glo "_law_is", .glo "_law_run", .glo "_law_states", .glo "_law_clock", .glo "_law_clock_of", .glo "_law_uses_near", .glo "_law_needed", .glo "_law_kind", .glo "_law_uses", .glo "_law_needed_told", .glo "_law_main_right", .glo "_law_turns", .glo "_law_two_right", .glo "_law_game_right", .glo "law", .glo "Clock", .glo "Values", .cls "Clock", .noat "Clock" "main", .noat "Clock" "bonus", .noat "Clock" "periods", .noat "Clock" "length", .mkr "Clock", .cls "Values", .noat "Values" "main", .noat "Values" "bonus", .noat "Values" "periods", .noat "Values" "length", .mkr "Values"]
def mor (K : PySem.W.Frag) : Bool := decide (PySem.W.kitOne K (.ref (He.ga K "Clock")) (.ref (He.ga K "Clock")) = some true) && (He.eqO (PySem.W.findIn K (.ref (He.ga K "Clock")) "__class__") (some (some (.builtin "object.__class__"))) && (He.eqO (PySem.W.specialIn K (.builtin "object.__class__") "__get__") (some (some (.builtin "getset_descriptor.__get__"))) && (decide (PySem.W.takesIn K (.builtin "object.__class__") = some true) && (decide (PySem.W.mroIn K (He.ga K "Clock") (.type "object") = some true)))))
abbrev AlM : Type := Bool × He.AlD
def obsM (n : Nat) (g : Addr → Option Obj) : AlM := (fun K : PySem.W.Frag => (mor K, He.obsD fa fn K)) (He.frG g (He.asD g n))
abbrev hk : PySem.W.Hook where
  α := AlM
  obs := fun s => obsM 5 s.heap.get?
  val := fun _ => (true, He.valD fn)
  says := fun _ h => ∃ K : PySem.W.Frag, K.In h ∧ mor K = true ∧ He.SaysD fa fn K
  of := fun _ _ e => ⟨_, He.frG_in, congrArg (fun z : AlM => z.1) e, congrArg (fun z : AlM => z.2) e⟩
  keeps := fun _ _ _ ⟨K, hK, m, c⟩ k => ⟨K, PySem.W.Frag.In.keeps hK k, m, c⟩
abbrev R : PySem.W.OpenRow := PySem.W.OpenLaw.row PySem.Challenge.rw_twoeyes_k78_whole_needed_main_and_two_cl
def ob (s : PySem.W.SharedT) : AlM := obsM 5 (HandSHeadRun.getT s)
theorem ob_eq (s : PySem.W.SharedT) : ob s = hk.obs s.abs := by
  have e : HandSHeadRun.getT s = s.abs.heap.get? := funext (HandSHeadRun.getT_eq s)
  show obsM 5 _ = obsM 5 _
  rw [e] <;> rfl
def loose : List PySem.Str := (["GoError", "InvalidBonus", "InvalidClock", "InvalidLength", "InvalidMain", "InvalidPeriods", "InvalidUses", "BLACK", "WHITE", "is_integer"] : List PySem.Str) ++ (["is_between", "is_list", "are_between", "other_color", "MOST_MAIN", "MOST_BONUS", "MOST_PERIODS", "MOST_LENGTH", "MOST_USED", "MOST_USES"] : List PySem.Str) ++ (["check_periods", "Clock", "check_clock", "check_uses", "first_state", "lost_with", "next_state", "states_in", "run_out", "check_clocks"] : List PySem.Str) ++ (["game_of", "first_out", "states_left", "Values", "needed_main", "_law_cell", "_law_box", "_law_take", "_law_pick", "_law_whole"] : List PySem.Str) ++ (["_law_is", "_law_run", "_law_states", "_law_clock", "_law_clock_of", "_law_uses_near", "_law_needed", "_law_kind", "_law_uses", "_law_needed_told"] : List PySem.Str) ++ (["_law_main_right", "_law_turns", "_law_two_right", "_law_game_right"] : List PySem.Str)
theorem run (w : World) : HandSHeadRun.RunEq R (PySem.W.view R.prog [59]) hk ob 12000 loose w := by
  intro os
  kernel_rfl
end R78
set_option maxRecDepth 100000
set_option maxHeartbeats 0
namespace R78
open PySem PySem.Spec PyProof.Rows L2 Z
theorem fn_none {P0 : Program} {w : World} {K : PySem.W.Frag} {mg : Str → Option Value} {base : Heap} {k : Nat} {f : Addr} {fd : FuncData} {ps : List Str} {α : Type} {args : α → List Z.P} {pre : α → Prop} {res : α → Z.P → Prop} (h : ∀ x, ¬ pre x) : FnOk P0 w K mg base CX0 k f fd ps (PF K args pre res) :=
  ⟨fun vs H Q E ⟨X, x, _, _, hp, _⟩ => (h x hp).elim, fun A outer s H a us vs Q E _ _ _ _ ⟨X, x, _, _, hp, _⟩ => (h x hp).elim⟩
theorem facts {P0 : Program} {w : World} {K : PySem.W.Frag} {h : Heap} {mg : Str → Option Value} {f : Addr} (X : K.In h) (G : h.Ns mainGlobals mg) (hfa : mg ("law" : Str) = some (.ref f)) (hm : mor K = true) (c : He.SaysD fa fn K) :
    ∃ fd : FuncData, (∀ (s : Shared) (v : Value), BindsTo s fd ⟨[v], []⟩ [("script", v)]) ∧ ∀ base : Heap, K.In base → base.Ns mainGlobals mg → FnOk P0 w K mg base CX0 16 f fd ["script"] (Slaw K) := by
  unfold mor at hm
  simp only [Bool.and_eq_true, decide_eq_true_eq] at hm
  obtain ⟨m1, m2, m3, m4, m5⟩ := hm
  have cls_Clock := He.cls_ok (c.fact 62 (f := .cls "Clock") rfl)
  have na_Clock_main := He.noat_ok (c.fact 63 (f := .noat "Clock" "main") rfl)
  have na_Clock_bonus := He.noat_ok (c.fact 64 (f := .noat "Clock" "bonus") rfl)
  have na_Clock_periods := He.noat_ok (c.fact 65 (f := .noat "Clock" "periods") rfl)
  have na_Clock_length := He.noat_ok (c.fact 66 (f := .noat "Clock" "length") rfl)
  have mk_Clock := He.mkr_ok (c.fact 67 (f := .mkr "Clock") rfl)
  have cls_Values := He.cls_ok (c.fact 68 (f := .cls "Values") rfl)
  have na_Values_main := He.noat_ok (c.fact 69 (f := .noat "Values" "main") rfl)
  have na_Values_bonus := He.noat_ok (c.fact 70 (f := .noat "Values" "bonus") rfl)
  have na_Values_periods := He.noat_ok (c.fact 71 (f := .noat "Values" "periods") rfl)
  have na_Values_length := He.noat_ok (c.fact 72 (f := .noat "Values" "length") rfl)
  have mk_Values := He.mkr_ok (c.fact 73 (f := .mkr "Values") rfl)
  have kf : Kf K := ⟨⟨cls_Clock, He.eqO_ok m2, He.eqO_ok m3, m4, m5⟩, ⟨cls_Clock, na_Clock_main, na_Clock_bonus, na_Clock_periods, na_Clock_length⟩, ⟨cls_Values, na_Values_main, na_Values_bonus, na_Values_periods, na_Values_length⟩, m1⟩
  have mo : Mo K mg := { n_abs := He.free_ok X G (c.fact 0 (f := .free "abs") rfl), n_all := He.free_ok X G (c.fact 1 (f := .free "all") rfl), n_bool := He.free_ok X G (c.fact 2 (f := .free "bool") rfl), n_enumerate := He.free_ok X G (c.fact 3 (f := .free "enumerate") rfl), n_int := He.free_ok X G (c.fact 4 (f := .free "int") rfl), n_isinstance := He.free_ok X G (c.fact 5 (f := .free "isinstance") rfl), n_len := He.free_ok X G (c.fact 6 (f := .free "len") rfl), n_list := He.free_ok X G (c.fact 7 (f := .free "list") rfl), n_max := He.free_ok X G (c.fact 8 (f := .free "max") rfl), n_min := He.free_ok X G (c.fact 9 (f := .free "min") rfl), n_range := He.free_ok X G (c.fact 10 (f := .free "range") rfl), n_str := He.free_ok X G (c.fact 11 (f := .free "str") rfl), n_sum := He.free_ok X G (c.fact 12 (f := .free "sum") rfl), n_tuple := He.free_ok X G (c.fact 13 (f := .free "tuple") rfl), g_BLACK := He.int_ok X G (c.fact 14 (f := .int "BLACK" 1) rfl), g_MOST_BONUS := He.int_ok X G (c.fact 15 (f := .int "MOST_BONUS" 10000) rfl), g_MOST_LENGTH := He.int_ok X G (c.fact 16 (f := .int "MOST_LENGTH" 10000) rfl), g_MOST_MAIN := He.int_ok X G (c.fact 17 (f := .int "MOST_MAIN" 100000) rfl), g_MOST_PERIODS := He.int_ok X G (c.fact 18 (f := .int "MOST_PERIODS" 100) rfl), g_MOST_USED := He.int_ok X G (c.fact 19 (f := .int "MOST_USED" 1000000000000) rfl), g_MOST_USES := He.int_ok X G (c.fact 20 (f := .int "MOST_USES" 400) rfl), g_WHITE := He.int_ok X G (c.fact 21 (f := .int "WHITE" 2) rfl), g_Clock := He.glo_ok X G (c.fact 60 (f := .glo "Clock") rfl) }
  have gC_Clock : mg ("Clock" : Str) = some (.ref (He.ga K "Clock")) := He.glo_ok X G (c.fact 60 (f := .glo "Clock") rfl)
  have gC_Values : mg ("Values" : Str) = some (.ref (He.ga K "Values")) := He.glo_ok X G (c.fact 61 (f := .glo "Values") rfl)
  obtain ⟨fd_is_integer, F_is_integer⟩ := c.def_ 0 (d := d_is_integer) rfl
  obtain ⟨fd_is_between, F_is_between⟩ := c.def_ 1 (d := d_is_between) rfl
  obtain ⟨fd_is_list, F_is_list⟩ := c.def_ 2 (d := d_is_list) rfl
  obtain ⟨fd_are_between, F_are_between⟩ := c.def_ 3 (d := d_are_between) rfl
  obtain ⟨fd_other_color, F_other_color⟩ := c.def_ 4 (d := d_other_color) rfl
  obtain ⟨fd_check_periods, F_check_periods⟩ := c.def_ 5 (d := d_check_periods) rfl
  obtain ⟨fd_Clock__init__, F_Clock__init__⟩ := c.def_ 6 (d := d_Clock__init__) rfl
  obtain ⟨fd_check_clock, F_check_clock⟩ := c.def_ 7 (d := d_check_clock) rfl
  obtain ⟨fd_check_uses, F_check_uses⟩ := c.def_ 8 (d := d_check_uses) rfl
  obtain ⟨fd_first_state, F_first_state⟩ := c.def_ 9 (d := d_first_state) rfl
  obtain ⟨fd_lost_with, F_lost_with⟩ := c.def_ 10 (d := d_lost_with) rfl
  obtain ⟨fd_next_state, F_next_state⟩ := c.def_ 11 (d := d_next_state) rfl
  obtain ⟨fd_states_in, F_states_in⟩ := c.def_ 12 (d := d_states_in) rfl
  obtain ⟨fd_run_out, F_run_out⟩ := c.def_ 13 (d := d_run_out) rfl
  obtain ⟨fd_check_clocks, F_check_clocks⟩ := c.def_ 14 (d := d_check_clocks) rfl
  obtain ⟨fd_game_of, F_game_of⟩ := c.def_ 15 (d := d_game_of) rfl
  obtain ⟨fd_first_out, F_first_out⟩ := c.def_ 16 (d := d_first_out) rfl
  obtain ⟨fd_states_left, F_states_left⟩ := c.def_ 17 (d := d_states_left) rfl
  obtain ⟨fd_Values__init__, F_Values__init__⟩ := c.def_ 18 (d := d_Values__init__) rfl
  obtain ⟨fd_needed_main, F_needed_main⟩ := c.def_ 19 (d := d_needed_main) rfl
  obtain ⟨fd__law_cell, F__law_cell⟩ := c.def_ 20 (d := d__law_cell) rfl
  obtain ⟨fd__law_box, F__law_box⟩ := c.def_ 21 (d := d__law_box) rfl
  obtain ⟨fd__law_take, F__law_take⟩ := c.def_ 22 (d := d__law_take) rfl
  obtain ⟨fd__law_pick, F__law_pick⟩ := c.def_ 23 (d := d__law_pick) rfl
  obtain ⟨fd__law_whole, F__law_whole⟩ := c.def_ 24 (d := d__law_whole) rfl
  obtain ⟨fd__law_is, F__law_is⟩ := c.def_ 25 (d := d__law_is) rfl
  obtain ⟨fd__law_run, F__law_run⟩ := c.def_ 26 (d := d__law_run) rfl
  obtain ⟨fd__law_states, F__law_states⟩ := c.def_ 27 (d := d__law_states) rfl
  obtain ⟨fd__law_clock, F__law_clock⟩ := c.def_ 28 (d := d__law_clock) rfl
  obtain ⟨fd__law_clock_of, F__law_clock_of⟩ := c.def_ 29 (d := d__law_clock_of) rfl
  obtain ⟨fd__law_uses_near, F__law_uses_near⟩ := c.def_ 30 (d := d__law_uses_near) rfl
  obtain ⟨fd__law_needed, F__law_needed⟩ := c.def_ 31 (d := d__law_needed) rfl
  obtain ⟨fd__law_kind, F__law_kind⟩ := c.def_ 32 (d := d__law_kind) rfl
  obtain ⟨fd__law_uses, F__law_uses⟩ := c.def_ 33 (d := d__law_uses) rfl
  obtain ⟨fd__law_needed_told, F__law_needed_told⟩ := c.def_ 34 (d := d__law_needed_told) rfl
  obtain ⟨fd__law_main_right, F__law_main_right⟩ := c.def_ 35 (d := d__law_main_right) rfl
  obtain ⟨fd__law_turns, F__law_turns⟩ := c.def_ 36 (d := d__law_turns) rfl
  obtain ⟨fd__law_two_right, F__law_two_right⟩ := c.def_ 37 (d := d__law_two_right) rfl
  obtain ⟨fd__law_game_right, F__law_game_right⟩ := c.def_ 38 (d := d__law_game_right) rfl
  obtain ⟨fd_law, F_law⟩ := c.def_ 39 (d := d_law) rfl
  have e := hfa.symm.trans (He.glo_ok X G (c.fact 59 (f := .glo "law") rfl))
  cases e
  have b := FunD.bindsA (ps := ["script"]) F_law fun _ _ _ _ _ _ us hl => match us, hl with | [_], _ => rfl
  refine ⟨fd_law, fun s v => b s [v] rfl, fun base _ _ => ?_⟩
  have O_is_integer : FnOk P0 w K mg base CX0 2 _ fd_is_integer ["value"] (Sis_integer K) := fn_pf (k := 1) F_is_integer sc_is_integer (fun _ => rfl) (dv_is_integer (k := 0) mo) (fun p hp => pl_is_integer p hp)
  have g_is_integer : mg ("is_integer" : Str) = some (.ref (He.ga K "is_integer")) := He.glo_ok X G (c.fact 22 (f := .glo "is_integer") rfl)
  have C_is_integer : Cal P0 w K mg base 2 "is_integer" ["value"] (Sis_integer K) := ⟨_, _, O_is_integer, g_is_integer, F_is_integer.kp, F_is_integer.bindsN fun _ _ _ _ _ _ us hl => match us, hl with | [_], _ => rfl⟩
  have O_is_between : FnOk P0 w K mg base CX0 4 _ fd_is_between ["value", "least", "most"] (Sis_between K) := fn_pf (k := 3) F_is_between sc_is_between (fun _ => rfl) (dv_is_between (k := 2) mo (C_is_integer.mono (by decide))) (fun x hx => pl_is_between x.1 x.2.1 x.2.2 hx)
  have g_is_between : mg ("is_between" : Str) = some (.ref (He.ga K "is_between")) := He.glo_ok X G (c.fact 23 (f := .glo "is_between") rfl)
  have C_is_between : Cal P0 w K mg base 4 "is_between" ["value", "least", "most"] (Sis_between K) := ⟨_, _, O_is_between, g_is_between, F_is_between.kp, F_is_between.bindsN fun _ _ _ _ _ _ us hl => match us, hl with | [_, _, _], _ => rfl⟩
  have O_is_list : FnOk P0 w K mg base CX0 2 _ fd_is_list ["value"] (Sis_list K) := fn_pf (k := 1) F_is_list sc_is_list (fun _ => rfl) (dv_is_list (k := 0) mo) (fun p hp => pl_is_list p hp)
  have g_is_list : mg ("is_list" : Str) = some (.ref (He.ga K "is_list")) := He.glo_ok X G (c.fact 24 (f := .glo "is_list") rfl)
  have C_is_list : Cal P0 w K mg base 2 "is_list" ["value"] (Sis_list K) := ⟨_, _, O_is_list, g_is_list, F_is_list.kp, F_is_list.bindsN fun _ _ _ _ _ _ us hl => match us, hl with | [_], _ => rfl⟩
  have O_are_between : FnOk P0 w K mg base CX0 6 _ fd_are_between ["values", "least", "most"] (Sare_between K) := fn_pf (k := 5) F_are_between sc_are_between (fun _ => rfl) (dv_are_between (k := 4) mo (C_is_between.mono (by decide))) (fun x hx => pl_are_between x.1 x.2.1 x.2.2.1 x.2.2.2 hx.1 hx.2)
  have g_are_between : mg ("are_between" : Str) = some (.ref (He.ga K "are_between")) := He.glo_ok X G (c.fact 25 (f := .glo "are_between") rfl)
  have C_are_between : Cal P0 w K mg base 6 "are_between" ["values", "least", "most"] (Sare_between K) := ⟨_, _, O_are_between, g_are_between, F_are_between.kp, F_are_between.bindsN fun _ _ _ _ _ _ us hl => match us, hl with | [_, _, _], _ => rfl⟩
  have O_other_color : FnOk P0 w K mg base CX0 2 _ fd_other_color ["color"] (Sother_color K) := fn_pf (k := 1) F_other_color sc_other_color (fun _ => rfl) (dv_other_color (k := 0) mo) (fun i _ => pl_other_color i)
  have g_other_color : mg ("other_color" : Str) = some (.ref (He.ga K "other_color")) := He.glo_ok X G (c.fact 26 (f := .glo "other_color") rfl)
  have C_other_color : Cal P0 w K mg base 2 "other_color" ["color"] (Sother_color K) := ⟨_, _, O_other_color, g_other_color, F_other_color.kp, F_other_color.bindsN fun _ _ _ _ _ _ us hl => match us, hl with | [_], _ => rfl⟩
  have O_check_periods : FnOk P0 w K mg base CX0 6 _ fd_check_periods ["bonus", "periods", "length"] (Scheck_periods K) := fn_pf (k := 5) F_check_periods sc_check_periods (fun _ => rfl) (dv_check_periods (k := 4) mo (C_is_between.mono (by decide))) (fun o w => pl_check_periods o w)
  have g_check_periods : mg ("check_periods" : Str) = some (.ref (He.ga K "check_periods")) := He.glo_ok X G (c.fact 27 (f := .glo "check_periods") rfl)
  have C_check_periods : Cal P0 w K mg base 6 "check_periods" ["bonus", "periods", "length"] (Scheck_periods K) := ⟨_, _, O_check_periods, g_check_periods, F_check_periods.kp, F_check_periods.bindsN fun _ _ _ _ _ _ us hl => match us, hl with | [_, _, _], _ => rfl⟩
  have O_Clock__init__ : FnOk P0 w K mg base CX0 8 _ fd_Clock__init__ ["self", "main", "bonus", "periods", "length"] (SClock__init__ K) := fn_mf (k := 7) F_Clock__init__ sc_Clock__init__ (fun _ => rfl) (dv_Clock__init__ (k := 6) mo (C_is_between.mono (by decide)) (C_check_periods.mono (by decide))) (fun o w => pl_Clock__init__ kf o w)
  have CM_Clock : CalM P0 w K mg base 8 "Clock" (He.ga K "Clock") (SClock__init__ K) := ⟨_, _, _, mk_Clock, O_Clock__init__, gC_Clock, F_Clock__init__.bindsN fun _ _ _ _ _ _ us hl => match us, hl with | [_, _, _, _, _], _ => rfl⟩
  have O_check_clock : FnOk P0 w K mg base CX0 2 _ fd_check_clock ["clock"] (Scheck_clock K) := fn_pf (k := 1) F_check_clock sc_check_clock (fun _ => rfl) (dv_check_clock (k := 0) mo) (fun o _ => pl_check_clock kf o)
  have g_check_clock : mg ("check_clock" : Str) = some (.ref (He.ga K "check_clock")) := He.glo_ok X G (c.fact 28 (f := .glo "check_clock") rfl)
  have C_check_clock : Cal P0 w K mg base 2 "check_clock" ["clock"] (Scheck_clock K) := ⟨_, _, O_check_clock, g_check_clock, F_check_clock.kp, F_check_clock.bindsN fun _ _ _ _ _ _ us hl => match us, hl with | [_], _ => rfl⟩
  have O_check_uses : FnOk P0 w K mg base CX0 8 _ fd_check_uses ["uses"] (Scheck_uses K) := fn_pf (k := 7) F_check_uses sc_check_uses (fun _ => rfl) (dv_check_uses (k := 6) mo (C_is_list.mono (by decide)) (C_are_between.mono (by decide))) (fun x hx => pl_check_uses x.1 x.2 hx)
  have g_check_uses : mg ("check_uses" : Str) = some (.ref (He.ga K "check_uses")) := He.glo_ok X G (c.fact 29 (f := .glo "check_uses") rfl)
  have C_check_uses : Cal P0 w K mg base 8 "check_uses" ["uses"] (Scheck_uses K) := ⟨_, _, O_check_uses, g_check_uses, F_check_uses.kp, F_check_uses.bindsN fun _ _ _ _ _ _ us hl => match us, hl with | [_], _ => rfl⟩
  have O_first_state : FnOk P0 w K mg base CX0 2 _ fd_first_state ["clock"] (Sfirst_state K) := fn_pf (k := 1) F_first_state sc_first_state (fun _ => rfl) (dv_first_state (k := 0) mo) (fun x _ => pl_first_state kf x.1 x.2)
  have g_first_state : mg ("first_state" : Str) = some (.ref (He.ga K "first_state")) := He.glo_ok X G (c.fact 30 (f := .glo "first_state") rfl)
  have C_first_state : Cal P0 w K mg base 2 "first_state" ["clock"] (Sfirst_state K) := ⟨_, _, O_first_state, g_first_state, F_first_state.kp, F_first_state.bindsN fun _ _ _ _ _ _ us hl => match us, hl with | [_], _ => rfl⟩
  have O_lost_with : FnOk P0 w K mg base CX0 2 _ fd_lost_with ["length", "rest"] (Slost_with K) := fn_pf (k := 1) F_lost_with sc_lost_with (fun _ => rfl) (dv_lost_with (k := 0) mo) (fun x hx => pl_lost_with x.1 x.2 hx)
  have g_lost_with : mg ("lost_with" : Str) = some (.ref (He.ga K "lost_with")) := He.glo_ok X G (c.fact 31 (f := .glo "lost_with") rfl)
  have C_lost_with : Cal P0 w K mg base 2 "lost_with" ["length", "rest"] (Slost_with K) := ⟨_, _, O_lost_with, g_lost_with, F_lost_with.kp, F_lost_with.bindsN fun _ _ _ _ _ _ us hl => match us, hl with | [_, _], _ => rfl⟩
  have O_next_state : FnOk P0 w K mg base CX0 4 _ fd_next_state ["clock", "state", "used"] (Snext_state K) := fn_pf (k := 3) F_next_state sc_next_state (fun _ => rfl) (dv_next_state (k := 2) mo (C_lost_with.mono (by decide))) (fun x hx => pl_next_state kf x.1 x.2.1 x.2.2.1 x.2.2.2 hx.1 hx.2)
  have g_next_state : mg ("next_state" : Str) = some (.ref (He.ga K "next_state")) := He.glo_ok X G (c.fact 32 (f := .glo "next_state") rfl)
  have C_next_state : Cal P0 w K mg base 4 "next_state" ["clock", "state", "used"] (Snext_state K) := ⟨_, _, O_next_state, g_next_state, F_next_state.kp, F_next_state.bindsN fun _ _ _ _ _ _ us hl => match us, hl with | [_, _, _], _ => rfl⟩
  have O_states_in : FnOk P0 w K mg base CX0 6 _ fd_states_in ["clock", "uses"] (Sstates_in K) := fn_pc (k := 5) F_states_in sc_states_in (fun _ => rfl) (dv_states_in (k := 4) mo (C_first_state.mono (by decide)) (C_next_state.mono (by decide))) (fun x hx => pl_states_in kf x.1 x.2.1 x.2.2.1 x.2.2.2 hx.1 hx.2)
  have g_states_in : mg ("states_in" : Str) = some (.ref (He.ga K "states_in")) := He.glo_ok X G (c.fact 33 (f := .glo "states_in") rfl)
  have C_states_in : Cal P0 w K mg base 6 "states_in" ["clock", "uses"] (Sstates_in K) := ⟨_, _, O_states_in, g_states_in, F_states_in.kp, F_states_in.bindsN fun _ _ _ _ _ _ us hl => match us, hl with | [_, _], _ => rfl⟩
  have O_run_out : FnOk P0 w K mg base CX0 10 _ fd_run_out ["clock", "uses"] (Srun_out K) := fn_pf (k := 9) F_run_out sc_run_out (fun _ => rfl) (dv_run_out (k := 8) mo (C_check_clock.mono (by decide)) (C_check_uses.mono (by decide)) (C_states_in.mono (by decide))) (fun x hx => pl_run_out x.1 x.2.1 x.2.2 hx.1 hx.2)
  have g_run_out : mg ("run_out" : Str) = some (.ref (He.ga K "run_out")) := He.glo_ok X G (c.fact 34 (f := .glo "run_out") rfl)
  have C_run_out : Cal P0 w K mg base 10 "run_out" ["clock", "uses"] (Srun_out K) := ⟨_, _, O_run_out, g_run_out, F_run_out.kp, F_run_out.bindsN fun _ _ _ _ _ _ us hl => match us, hl with | [_, _], _ => rfl⟩
  have cn_run_out_1_0 : CalN P0 w K mg base 10 "run_out" 0 ["uses", "clock"] [1, 0] (Srun_out K) := ⟨_, _, _, O_run_out, g_run_out, F_run_out.kp, kbN F_run_out 0 _ [1, 0] fun _ _ _ _ _ _ us ws h1 h2 => match us, ws, h1, h2 with | [], [_, _], _, _ => rfl⟩
  have O_check_clocks : FnOk P0 w K mg base CX0 2 _ fd_check_clocks ["one", "other"] (Scheck_clocks K) := fn_pf (k := 1) F_check_clocks sc_check_clocks (fun _ => rfl) (dv_check_clocks (k := 0) mo) (fun x _ => pl_check_clocks kf x.1 x.2)
  have g_check_clocks : mg ("check_clocks" : Str) = some (.ref (He.ga K "check_clocks")) := He.glo_ok X G (c.fact 35 (f := .glo "check_clocks") rfl)
  have C_check_clocks : Cal P0 w K mg base 2 "check_clocks" ["one", "other"] (Scheck_clocks K) := ⟨_, _, O_check_clocks, g_check_clocks, F_check_clocks.kp, F_check_clocks.bindsN fun _ _ _ _ _ _ us hl => match us, hl with | [_, _], _ => rfl⟩
  have O_game_of : FnOk P0 w K mg base CX0 6 _ fd_game_of ["black", "white", "uses"] (Sgame_of K) := fn_pf (k := 5) F_game_of sc_game_of (fun _ => rfl) (dv_game_of (k := 4) mo (C_other_color.mono (by decide)) (C_first_state.mono (by decide)) (C_next_state.mono (by decide))) (fun x hx => pl_game_of x.1 x.2.1 x.2.2.1 x.2.2.2 hx.1 hx.2.1 hx.2.2)
  have g_game_of : mg ("game_of" : Str) = some (.ref (He.ga K "game_of")) := He.glo_ok X G (c.fact 36 (f := .glo "game_of") rfl)
  have C_game_of : Cal P0 w K mg base 6 "game_of" ["black", "white", "uses"] (Sgame_of K) := ⟨_, _, O_game_of, g_game_of, F_game_of.kp, F_game_of.bindsN fun _ _ _ _ _ _ us hl => match us, hl with | [_, _, _], _ => rfl⟩
  have O_first_out : FnOk P0 w K mg base CX0 10 _ fd_first_out ["black", "white", "uses"] (Sfirst_out K) := fn_pf (k := 9) F_first_out sc_first_out (fun _ => rfl) (dv_first_out (k := 8) mo (C_check_clocks.mono (by decide)) (C_check_uses.mono (by decide)) (C_game_of.mono (by decide))) (fun x hx => pl_first_out x.1 x.2.1 x.2.2.1 x.2.2.2 hx.1 hx.2.1 hx.2.2)
  have g_first_out : mg ("first_out" : Str) = some (.ref (He.ga K "first_out")) := He.glo_ok X G (c.fact 37 (f := .glo "first_out") rfl)
  have C_first_out : Cal P0 w K mg base 10 "first_out" ["black", "white", "uses"] (Sfirst_out K) := ⟨_, _, O_first_out, g_first_out, F_first_out.kp, F_first_out.bindsN fun _ _ _ _ _ _ us hl => match us, hl with | [_, _, _], _ => rfl⟩
  have cn_first_out_2_1_0 : CalN P0 w K mg base 10 "first_out" 0 ["uses", "white", "black"] [2, 1, 0] (Sfirst_out K) := ⟨_, _, _, O_first_out, g_first_out, F_first_out.kp, kbN F_first_out 0 _ [2, 1, 0] fun _ _ _ _ _ _ us ws h1 h2 => match us, ws, h1, h2 with | [], [_, _, _], _, _ => rfl⟩
  have O_states_left : FnOk P0 w K mg base CX0 10 _ fd_states_left ["black", "white", "uses"] (Sstates_left K) := fn_pf (k := 9) F_states_left sc_states_left (fun _ => rfl) (dv_states_left (k := 8) mo (C_check_clocks.mono (by decide)) (C_check_uses.mono (by decide)) (C_game_of.mono (by decide)) (C_other_color.mono (by decide))) (fun x hx => pl_states_left x.1 x.2.1 x.2.2.1 x.2.2.2 hx.1 hx.2.1 hx.2.2)
  have g_states_left : mg ("states_left" : Str) = some (.ref (He.ga K "states_left")) := He.glo_ok X G (c.fact 38 (f := .glo "states_left") rfl)
  have C_states_left : Cal P0 w K mg base 10 "states_left" ["black", "white", "uses"] (Sstates_left K) := ⟨_, _, O_states_left, g_states_left, F_states_left.kp, F_states_left.bindsN fun _ _ _ _ _ _ us hl => match us, hl with | [_, _, _], _ => rfl⟩
  have cn_states_left_2_1_0 : CalN P0 w K mg base 10 "states_left" 0 ["uses", "white", "black"] [2, 1, 0] (Sstates_left K) := ⟨_, _, _, O_states_left, g_states_left, F_states_left.kp, kbN F_states_left 0 _ [2, 1, 0] fun _ _ _ _ _ _ us ws h1 h2 => match us, ws, h1, h2 with | [], [_, _, _], _, _ => rfl⟩
  have O_Values__init__ : FnOk P0 w K mg base CX0 2 _ fd_Values__init__ ["self", "main", "bonus", "periods", "length"] (SValues__init__ K) := fn_mf (k := 1) F_Values__init__ sc_Values__init__ (fun _ => rfl) (dv_Values__init__ (k := 0) mo) (fun o _ => pl_Values__init__ kf o)
  have CM_Values : CalM P0 w K mg base 2 "Values" (He.ga K "Values") (SValues__init__ K) := ⟨_, _, _, mk_Values, O_Values__init__, gC_Values, F_Values__init__.bindsN fun _ _ _ _ _ _ us hl => match us, hl with | [_, _, _, _, _], _ => rfl⟩
  have O_needed_main : FnOk P0 w K mg base CX0 10 _ fd_needed_main ["bonus", "periods", "length", "uses"] (Sneeded_main K) := fn_pf (k := 9) F_needed_main sc_needed_main (fun _ => rfl) (dv_needed_main (k := 8) mo (C_check_periods.mono (by decide)) (C_check_uses.mono (by decide)) (C_states_in.mono (by decide)) (CM_Values.mono (by decide))) (fun x hx => pl_needed_main x.1 x.2.1 x.2.2 hx.1 hx.2)
  have g_needed_main : mg ("needed_main" : Str) = some (.ref (He.ga K "needed_main")) := He.glo_ok X G (c.fact 39 (f := .glo "needed_main") rfl)
  have C_needed_main : Cal P0 w K mg base 10 "needed_main" ["bonus", "periods", "length", "uses"] (Sneeded_main K) := ⟨_, _, O_needed_main, g_needed_main, F_needed_main.kp, F_needed_main.bindsN fun _ _ _ _ _ _ us hl => match us, hl with | [_, _, _, _], _ => rfl⟩
  have cn_needed_main_3_2_1_0 : CalN P0 w K mg base 10 "needed_main" 0 ["uses", "length", "periods", "bonus"] [3, 2, 1, 0] (Sneeded_main K) := ⟨_, _, _, O_needed_main, g_needed_main, F_needed_main.kp, kbN F_needed_main 0 _ [3, 2, 1, 0] fun _ _ _ _ _ _ us ws h1 h2 => match us, ws, h1, h2 with | [], [_, _, _, _], _, _ => rfl⟩
  have O__law_cell : FnOk P0 w K mg base CX0 2 _ fd__law_cell ["script", "k"] (S_law_cell K) := fn_pf (k := 1) F__law_cell sc__law_cell (fun _ => rfl) (dv__law_cell (k := 0) mo) (fun x hx => pl_law_cell x.1 x.2 hx)
  have g__law_cell : mg ("_law_cell" : Str) = some (.ref (He.ga K "_law_cell")) := He.glo_ok X G (c.fact 40 (f := .glo "_law_cell") rfl)
  have C__law_cell : Cal P0 w K mg base 2 "_law_cell" ["script", "k"] (S_law_cell K) := ⟨_, _, O__law_cell, g__law_cell, F__law_cell.kp, F__law_cell.bindsN fun _ _ _ _ _ _ us hl => match us, hl with | [_, _], _ => rfl⟩
  have O__law_box : FnOk P0 w K mg base CX0 2 _ fd__law_box ["great"] (S_law_box K) := fn_pc (k := 1) F__law_box sc__law_box (fun _ => rfl) (dv__law_box (k := 0) mo) (fun i _ => pl_law_box i)
  have g__law_box : mg ("_law_box" : Str) = some (.ref (He.ga K "_law_box")) := He.glo_ok X G (c.fact 41 (f := .glo "_law_box") rfl)
  have C__law_box : Cal P0 w K mg base 2 "_law_box" ["great"] (S_law_box K) := ⟨_, _, O__law_box, g__law_box, F__law_box.kp, F__law_box.bindsN fun _ _ _ _ _ _ us hl => match us, hl with | [_], _ => rfl⟩
  have O__law_take : FnOk P0 w K mg base CX0 2 _ fd__law_take ["box", "many"] (S_law_take K) := fn_bf (k := 1) F__law_take sc__law_take (fun _ => rfl) (dv__law_take (k := 0) mo) (fun m n c hm hb hn => pl_law_take m n c hm hb hn)
  have g__law_take : mg ("_law_take" : Str) = some (.ref (He.ga K "_law_take")) := He.glo_ok X G (c.fact 42 (f := .glo "_law_take") rfl)
  have C__law_take : Cal P0 w K mg base 2 "_law_take" ["box", "many"] (S_law_take K) := ⟨_, _, O__law_take, g__law_take, F__law_take.kp, F__law_take.bindsN fun _ _ _ _ _ _ us hl => match us, hl with | [_, _], _ => rfl⟩
  have O__law_pick : FnOk P0 w K mg base CX0 4 _ fd__law_pick ["box", "items"] (S_law_pick K) := fn_bf (k := 3) F__law_pick sc__law_pick (fun _ => rfl) (dv__law_pick (k := 2) mo (C__law_take.mono (by decide))) (fun x n c hp hb hn => pl_law_pick x.1 x.2 n c hp hb hn)
  have g__law_pick : mg ("_law_pick" : Str) = some (.ref (He.ga K "_law_pick")) := He.glo_ok X G (c.fact 43 (f := .glo "_law_pick") rfl)
  have C__law_pick : Cal P0 w K mg base 4 "_law_pick" ["box", "items"] (S_law_pick K) := ⟨_, _, O__law_pick, g__law_pick, F__law_pick.kp, F__law_pick.bindsN fun _ _ _ _ _ _ us hl => match us, hl with | [_, _], _ => rfl⟩
  have O__law_whole : FnOk P0 w K mg base CX0 2 _ fd__law_whole ["value"] (S_law_whole K) := fn_pf (k := 1) F__law_whole sc__law_whole (fun _ => rfl) (dv__law_whole (k := 0) mo) (fun p hp => pl_law_whole p hp)
  have g__law_whole : mg ("_law_whole" : Str) = some (.ref (He.ga K "_law_whole")) := He.glo_ok X G (c.fact 44 (f := .glo "_law_whole") rfl)
  have C__law_whole : Cal P0 w K mg base 2 "_law_whole" ["value"] (S_law_whole K) := ⟨_, _, O__law_whole, g__law_whole, F__law_whole.kp, F__law_whole.bindsN fun _ _ _ _ _ _ us hl => match us, hl with | [_], _ => rfl⟩
  have O__law_isN : FnOk P0 w K mg base CX0 0 (He.fAd K d__law_is.at_) fd__law_is ["given", "due"] (PF K (fun p : Z.P => [p, p]) (fun _ => False) (fun _ r => r = .bl true)) := fn_none fun _ h => h
  have g__law_isN : mg ("_law_is" : Str) = some (.ref (He.ga K "_law_is")) := He.glo_ok X G (c.fact 45 (f := .glo "_law_is") rfl)
  have C__law_isN : Cal P0 w K mg base 0 "_law_is" ["given", "due"] (PF K (fun p : Z.P => [p, p]) (fun _ => False) (fun _ r => r = .bl true)) := ⟨_, _, O__law_isN, g__law_isN, F__law_is.kp, F__law_is.bindsN fun _ _ _ _ _ _ us hl => match us, hl with | [_, _], _ => rfl⟩
  have O__law_is0 : FnOk P0 w K mg base CX0 4 _ fd__law_is ["given", "due"] (S_law_is K 0) := fn_pf (k := 3) F__law_is sc__law_is (fun _ => rfl) (dv__law_is (k := 2) mo (C__law_whole.mono (by decide)) (C__law_isN.mono (by decide))) (fun p hp => pl_law_is0 _ p hp)
  have g__law_is0 : mg ("_law_is" : Str) = some (.ref (He.ga K "_law_is")) := He.glo_ok X G (c.fact 45 (f := .glo "_law_is") rfl)
  have C__law_is0 : Cal P0 w K mg base 4 "_law_is" ["given", "due"] (S_law_is K 0) := ⟨_, _, O__law_is0, g__law_is0, F__law_is.kp, F__law_is.bindsN fun _ _ _ _ _ _ us hl => match us, hl with | [_, _], _ => rfl⟩
  have O__law_is1 : FnOk P0 w K mg base CX0 6 _ fd__law_is ["given", "due"] (S_law_is K 1) := fn_pf (k := 5) F__law_is sc__law_is (fun _ => rfl) (dv__law_is (k := 4) mo (C__law_whole.mono (by decide)) (C__law_is0.mono (by decide))) (fun p hp => pl_law_is 0 p hp)
  have g__law_is1 : mg ("_law_is" : Str) = some (.ref (He.ga K "_law_is")) := He.glo_ok X G (c.fact 45 (f := .glo "_law_is") rfl)
  have C__law_is1 : Cal P0 w K mg base 6 "_law_is" ["given", "due"] (S_law_is K 1) := ⟨_, _, O__law_is1, g__law_is1, F__law_is.kp, F__law_is.bindsN fun _ _ _ _ _ _ us hl => match us, hl with | [_, _], _ => rfl⟩
  have O__law_is2 : FnOk P0 w K mg base CX0 8 _ fd__law_is ["given", "due"] (S_law_is K 2) := fn_pf (k := 7) F__law_is sc__law_is (fun _ => rfl) (dv__law_is (k := 6) mo (C__law_whole.mono (by decide)) (C__law_is1.mono (by decide))) (fun p hp => pl_law_is 1 p hp)
  have g__law_is2 : mg ("_law_is" : Str) = some (.ref (He.ga K "_law_is")) := He.glo_ok X G (c.fact 45 (f := .glo "_law_is") rfl)
  have C__law_is2 : Cal P0 w K mg base 8 "_law_is" ["given", "due"] (S_law_is K 2) := ⟨_, _, O__law_is2, g__law_is2, F__law_is.kp, F__law_is.bindsN fun _ _ _ _ _ _ us hl => match us, hl with | [_, _], _ => rfl⟩
  have O__law_is : FnOk P0 w K mg base CX0 10 _ fd__law_is ["given", "due"] (S_law_is K 3) := fn_pf (k := 9) F__law_is sc__law_is (fun _ => rfl) (dv__law_is (k := 8) mo (C__law_whole.mono (by decide)) (C__law_is2.mono (by decide))) (fun p hp => pl_law_is 2 p hp)
  have g__law_is : mg ("_law_is" : Str) = some (.ref (He.ga K "_law_is")) := He.glo_ok X G (c.fact 45 (f := .glo "_law_is") rfl)
  have C__law_is : Cal P0 w K mg base 10 "_law_is" ["given", "due"] (S_law_is K 3) := ⟨_, _, O__law_is, g__law_is, F__law_is.kp, F__law_is.bindsN fun _ _ _ _ _ _ us hl => match us, hl with | [_, _], _ => rfl⟩
  have O__law_run : FnOk P0 w K mg base CX0 2 _ fd__law_run ["own", "state", "times", "used"] (S_law_run K) := fn_pf (k := 1) F__law_run sc__law_run (fun _ => rfl) (dv__law_run (k := 0) mo) (fun x hx => pl__law_run x.1 x.2.1 x.2.2 hx.1 hx.2.1 hx.2.2)
  have g__law_run : mg ("_law_run" : Str) = some (.ref (He.ga K "_law_run")) := He.glo_ok X G (c.fact 46 (f := .glo "_law_run") rfl)
  have C__law_run : Cal P0 w K mg base 2 "_law_run" ["own", "state", "times", "used"] (S_law_run K) := ⟨_, _, O__law_run, g__law_run, F__law_run.kp, F__law_run.bindsN fun _ _ _ _ _ _ us hl => match us, hl with | [_, _, _, _], _ => rfl⟩
  have O__law_states : FnOk P0 w K mg base CX0 4 _ fd__law_states ["own", "uses"] (S_law_states K) := fn_pc (k := 3) F__law_states sc__law_states (fun _ => rfl) (dv__law_states (k := 2) mo (C__law_run.mono (by decide))) (fun x hx => pl__law_states x.1 x.2 hx.1 hx.2)
  have g__law_states : mg ("_law_states" : Str) = some (.ref (He.ga K "_law_states")) := He.glo_ok X G (c.fact 47 (f := .glo "_law_states") rfl)
  have C__law_states : Cal P0 w K mg base 4 "_law_states" ["own", "uses"] (S_law_states K) := ⟨_, _, O__law_states, g__law_states, F__law_states.kp, F__law_states.bindsN fun _ _ _ _ _ _ us hl => match us, hl with | [_, _], _ => rfl⟩
  have O__law_clock : FnOk P0 w K mg base CX0 6 _ fd__law_clock ["box"] (S_law_clock K) := fn_bf (k := 5) F__law_clock sc__law_clock (fun _ => rfl) (dv__law_clock (k := 4) mo (C__law_take.mono (by decide)) (C__law_pick.mono (by decide))) (fun _ n c _ hb hn => pl__law_clock n c hb hn)
  have g__law_clock : mg ("_law_clock" : Str) = some (.ref (He.ga K "_law_clock")) := He.glo_ok X G (c.fact 48 (f := .glo "_law_clock") rfl)
  have C__law_clock : Cal P0 w K mg base 6 "_law_clock" ["box"] (S_law_clock K) := ⟨_, _, O__law_clock, g__law_clock, F__law_clock.kp, F__law_clock.bindsN fun _ _ _ _ _ _ us hl => match us, hl with | [_], _ => rfl⟩
  have O__law_clock_of : FnOk P0 w K mg base CX0 10 _ fd__law_clock_of ["own"] (S_law_clock_of K) := fn_pf (k := 9) F__law_clock_of sc__law_clock_of (fun _ => rfl) (dv__law_clock_of (k := 8) mo (CM_Clock.mono (by decide))) (fun o w => pl__law_clock_of o w)
  have g__law_clock_of : mg ("_law_clock_of" : Str) = some (.ref (He.ga K "_law_clock_of")) := He.glo_ok X G (c.fact 49 (f := .glo "_law_clock_of") rfl)
  have C__law_clock_of : Cal P0 w K mg base 10 "_law_clock_of" ["own"] (S_law_clock_of K) := ⟨_, _, O__law_clock_of, g__law_clock_of, F__law_clock_of.kp, F__law_clock_of.bindsN fun _ _ _ _ _ _ us hl => match us, hl with | [_], _ => rfl⟩
  have O__law_uses_near : FnOk P0 w K mg base CX0 2 _ fd__law_uses_near ["own"] (S_law_uses_near K) := fn_pf (k := 1) F__law_uses_near sc__law_uses_near (fun _ => rfl) (dv__law_uses_near (k := 0) mo) (fun o w => pl__law_uses_near o w)
  have g__law_uses_near : mg ("_law_uses_near" : Str) = some (.ref (He.ga K "_law_uses_near")) := He.glo_ok X G (c.fact 50 (f := .glo "_law_uses_near") rfl)
  have C__law_uses_near : Cal P0 w K mg base 2 "_law_uses_near" ["own"] (S_law_uses_near K) := ⟨_, _, O__law_uses_near, g__law_uses_near, F__law_uses_near.kp, F__law_uses_near.bindsN fun _ _ _ _ _ _ us hl => match us, hl with | [_], _ => rfl⟩
  have O__law_needed : FnOk P0 w K mg base CX0 6 _ fd__law_needed ["own", "uses"] (S_law_needed K) := fn_pf (k := 5) F__law_needed sc__law_needed (fun _ => rfl) (dv__law_needed (k := 4) mo (C__law_states.mono (by decide))) (fun x hx => pl__law_needed x.1 x.2 hx.1 hx.2)
  have g__law_needed : mg ("_law_needed" : Str) = some (.ref (He.ga K "_law_needed")) := He.glo_ok X G (c.fact 51 (f := .glo "_law_needed") rfl)
  have C__law_needed : Cal P0 w K mg base 6 "_law_needed" ["own", "uses"] (S_law_needed K) := ⟨_, _, O__law_needed, g__law_needed, F__law_needed.kp, F__law_needed.bindsN fun _ _ _ _ _ _ us hl => match us, hl with | [_, _], _ => rfl⟩
  have O__law_kind : FnOk P0 w K mg base CX0 8 _ fd__law_kind ["box"] (S_law_kind K) := fn_bf (k := 7) F__law_kind sc__law_kind (fun _ => rfl) (dv__law_kind (k := 6) mo (C__law_clock.mono (by decide))) (fun _ n c _ hb hn => pl__law_kind n c hb hn)
  have g__law_kind : mg ("_law_kind" : Str) = some (.ref (He.ga K "_law_kind")) := He.glo_ok X G (c.fact 52 (f := .glo "_law_kind") rfl)
  have C__law_kind : Cal P0 w K mg base 8 "_law_kind" ["box"] (S_law_kind K) := ⟨_, _, O__law_kind, g__law_kind, F__law_kind.kp, F__law_kind.bindsN fun _ _ _ _ _ _ us hl => match us, hl with | [_], _ => rfl⟩
  have O__law_uses : FnOk P0 w K mg base CX0 6 _ fd__law_uses ["box", "kind", "many"] (S_law_uses K) := fn_bf (k := 5) F__law_uses sc__law_uses (fun _ => rfl) (dv__law_uses (k := 4) mo (C__law_uses_near.mono (by decide)) (C__law_take.mono (by decide)) (C__law_pick.mono (by decide))) (fun x n c hx hb hn => pl__law_uses x.1 x.2 n c hx.1 hx.2 hb hn)
  have g__law_uses : mg ("_law_uses" : Str) = some (.ref (He.ga K "_law_uses")) := He.glo_ok X G (c.fact 53 (f := .glo "_law_uses") rfl)
  have C__law_uses : Cal P0 w K mg base 6 "_law_uses" ["box", "kind", "many"] (S_law_uses K) := ⟨_, _, O__law_uses, g__law_uses, F__law_uses.kp, F__law_uses.bindsN fun _ _ _ _ _ _ us hl => match us, hl with | [_, _, _], _ => rfl⟩
  have O__law_needed_told : FnOk P0 w K mg base CX0 12 _ fd__law_needed_told ["kind", "uses", "named"] (S_law_needed_told K) := fn_pf (k := 11) F__law_needed_told sc__law_needed_told (fun _ => rfl) (dv__law_needed_told (k := 10) mo (C_needed_main.mono (by decide)) (cn_needed_main_3_2_1_0.mono (by decide))) (fun x hx => pl__law_needed_told x.1 x.2.1 x.2.2 hx.1 hx.2)
  have g__law_needed_told : mg ("_law_needed_told" : Str) = some (.ref (He.ga K "_law_needed_told")) := He.glo_ok X G (c.fact 54 (f := .glo "_law_needed_told") rfl)
  have C__law_needed_told : Cal P0 w K mg base 12 "_law_needed_told" ["kind", "uses", "named"] (S_law_needed_told K) := ⟨_, _, O__law_needed_told, g__law_needed_told, F__law_needed_told.kp, F__law_needed_told.bindsN fun _ _ _ _ _ _ us hl => match us, hl with | [_, _, _], _ => rfl⟩
  have O__law_main_right : FnOk P0 w K mg base CX0 14 _ fd__law_main_right ["box", "kind", "uses", "named"] (S_law_main_right K) := fn_bf (k := 13) F__law_main_right sc__law_main_right (fun _ => rfl) (dv__law_main_right (k := 12) mo (C__law_needed.mono (by decide)) (C__law_is.mono (by decide)) (C__law_needed_told.mono (by decide)) (C_run_out.mono (by decide)) (C__law_states.mono (by decide)) (C__law_uses.mono (by decide)) (cn_run_out_1_0.mono (by decide)) (CM_Clock.mono (by decide))) (fun x N c hx hb hn => pl__law_main_right x.1 x.2.1 x.2.2 N c hx.1 hx.2 hb hn)
  have g__law_main_right : mg ("_law_main_right" : Str) = some (.ref (He.ga K "_law_main_right")) := He.glo_ok X G (c.fact 55 (f := .glo "_law_main_right") rfl)
  have C__law_main_right : Cal P0 w K mg base 14 "_law_main_right" ["box", "kind", "uses", "named"] (S_law_main_right K) := ⟨_, _, O__law_main_right, g__law_main_right, F__law_main_right.kp, F__law_main_right.bindsN fun _ _ _ _ _ _ us hl => match us, hl with | [_, _, _, _], _ => rfl⟩
  have O__law_turns : FnOk P0 w K mg base CX0 4 _ fd__law_turns ["black", "white", "uses"] (S_law_turns K) := fn_pf (k := 3) F__law_turns sc__law_turns (fun _ => rfl) (dv__law_turns (k := 2) mo (C__law_run.mono (by decide))) (fun x hx => pl__law_turns x.1 x.2.1 x.2.2 hx.1 hx.2.1 hx.2.2)
  have g__law_turns : mg ("_law_turns" : Str) = some (.ref (He.ga K "_law_turns")) := He.glo_ok X G (c.fact 56 (f := .glo "_law_turns") rfl)
  have C__law_turns : Cal P0 w K mg base 4 "_law_turns" ["black", "white", "uses"] (S_law_turns K) := ⟨_, _, O__law_turns, g__law_turns, F__law_turns.kp, F__law_turns.bindsN fun _ _ _ _ _ _ us hl => match us, hl with | [_, _, _], _ => rfl⟩
  have O__law_two_right : FnOk P0 w K mg base CX0 12 _ fd__law_two_right ["black", "white", "uses", "named"] (S_law_two_right K) := fn_pf (k := 11) F__law_two_right sc__law_two_right (fun _ => rfl) (dv__law_two_right (k := 10) mo (C__law_turns.mono (by decide)) (C__law_clock_of.mono (by decide)) (C_states_left.mono (by decide)) (C_first_out.mono (by decide)) (C__law_is.mono (by decide)) (cn_first_out_2_1_0.mono (by decide)) (cn_states_left_2_1_0.mono (by decide))) (fun x hx => pl__law_two_right x.1 x.2.1 x.2.2.1 x.2.2.2 hx.1 hx.2.1 hx.2.2)
  have g__law_two_right : mg ("_law_two_right" : Str) = some (.ref (He.ga K "_law_two_right")) := He.glo_ok X G (c.fact 57 (f := .glo "_law_two_right") rfl)
  have C__law_two_right : Cal P0 w K mg base 12 "_law_two_right" ["black", "white", "uses", "named"] (S_law_two_right K) := ⟨_, _, O__law_two_right, g__law_two_right, F__law_two_right.kp, F__law_two_right.bindsN fun _ _ _ _ _ _ us hl => match us, hl with | [_, _, _, _], _ => rfl⟩
  have O__law_game_right : FnOk P0 w K mg base CX0 14 _ fd__law_game_right ["box", "named"] (S_law_game_right K) := fn_bf (k := 13) F__law_game_right sc__law_game_right (fun _ => rfl) (dv__law_game_right (k := 12) mo (C__law_kind.mono (by decide)) (C__law_pick.mono (by decide)) (C__law_uses.mono (by decide)) (C__law_take.mono (by decide)) (C__law_needed.mono (by decide)) (C__law_two_right.mono (by decide))) (fun x N c _ hb hn => pl__law_game_right x N c hb hn)
  have g__law_game_right : mg ("_law_game_right" : Str) = some (.ref (He.ga K "_law_game_right")) := He.glo_ok X G (c.fact 58 (f := .glo "_law_game_right") rfl)
  have C__law_game_right : Cal P0 w K mg base 14 "_law_game_right" ["box", "named"] (S_law_game_right K) := ⟨_, _, O__law_game_right, g__law_game_right, F__law_game_right.kp, F__law_game_right.bindsN fun _ _ _ _ _ _ us hl => match us, hl with | [_, _], _ => rfl⟩
  exact fn_pf (k := 15) F_law sc_law (fun _ => rfl) (dv_law (k := 14) mo (C__law_box.mono (by decide)) (C__law_cell.mono (by decide)) (C__law_take.mono (by decide)) (C__law_kind.mono (by decide)) (C__law_main_right.mono (by decide)) (C__law_uses.mono (by decide)) (C__law_game_right.mono (by decide)) (C__law_two_right.mono (by decide)) (C__law_clock.mono (by decide))) (fun ns hl => pl_law ns hl)
end R78
open PySem PySem.W PySem.Calls PyProof.Rows
theorem PySem.Challenge.cw_twoeyes_k78_whole_needed_main_and_two_cl_holds : PySem.Challenge.rw_twoeyes_k78_whole_needed_main_and_two_cl.Holds := by
  w_on; o_law
  refine HandSHeadRun.head_any (r := OpenLaw.row PySem.Challenge.rw_twoeyes_k78_whole_needed_main_and_two_cl) (q := view (OpenLaw.row PySem.Challenge.rw_twoeyes_k78_whole_needed_main_and_two_cl).prog [59]) (H := R78.hk) (ob := R78.ob) (M := 12000) (loose := R78.loose) (d := HandSHeadRun.topDef (OpenLaw.row PySem.Challenge.rw_twoeyes_k78_whole_needed_main_and_two_cl).prog 59) (kwd := []) R78.ob_eq
    (by kernel_rfl) (fun s => by kernel_rfl) R78.run (by kernel_rfl) (by kernel_rfl) (by kernel_rfl) (by rfl) (by first | assumption | decide +kernel) (by decide +kernel) ⟨rfl, rfl, rfl, rfl, rfl, by decide +kernel⟩ ?hw ?hc
  case hw => w_witness2
  case hc =>
    refine L2.walk_ofE (l := PySem.Challenge.rw_twoeyes_k78_whole_needed_main_and_two_cl) (n := 63) (k := 16) (x := "script") (CX := L2.CX0) rfl (by decide) (by kernel_rfl) ⟨rfl, by decide, by decide⟩ ?F (fun _ _ _ _ z => z)
    intro w mg fa h Y G hmg0
    obtain ⟨K, KX, m, c⟩ := Y
    have hmg : mg ("law" : PySem.Str) = some (.ref fa) := by
      have e : (HandSHeadRun.topDef (OpenLaw.row PySem.Challenge.rw_twoeyes_k78_whole_needed_main_and_two_cl).prog 59).name = ("law" : PySem.Str) := by kernel_rfl
      rw [← e]
      exact hmg0
    obtain ⟨fd, hb, hF⟩ := R78.facts (P0 := (PySem.Challenge.rw_twoeyes_k78_whole_needed_main_and_two_cl).prog) (w := w) KX G hmg m c
    exact ⟨K, fd, R78.Slaw K, KX, hb, fun H a ns hl hO hS => ⟨fun _ => False, ns, fun _ z => z.elim, .cons (hS.elim (fun h => .scr h (fun z => z) (Z.Rps.ofInts ns)) (fun h => .scrK h (Z.Rps.ofInts ns))) .nil, hl, fun v p H' _ rp e => by subst e; cases rp; rfl⟩, hF⟩
