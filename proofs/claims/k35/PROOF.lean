import PyProof.Rows.All
import HandS.ForMost
import HandS.Defaults
import HandS.MakeKw
import HandS.IsInst
import HandS.Star
import HandS.Style
import HandS.Flow
import HandS.Conv
import HandS.Walk
import HandS.TupAny
import HandS.MakeKwOnly
import HandS.TupLe
import KE.GoesEnum
import HandS.HeadHook2
import HandS.OwnEq
import HandS.SlotsOwn
import KE.DatumOrd
import HandS.Dict
import PySem.Challenge.RW_twoeyes_k35_races_far
import HandS.Head0
import HandS.Head1
import HandS.Head2
import HandS.HeadEnd
import HandS.HeadHook1
import Lean
set_option Elab.async false
set_option linter.all false
set_option maxRecDepth 100000
set_option maxHeartbeats 4000000
/-! A calculus over data: what a reading does to values told as plain data, the heap hidden. -/
namespace Z
open PySem PySem.Spec PyProof.Rows L2

/-- data that never changes -/
inductive P where
  | non | bl (b : Bool) | int (i : Int) | str (s : Str) | tup (ds : List P) | lst (ds : List P) | scr (ds : List P) | ins (C : Addr) (ks : List Str) (ds : List P)

def WrT (K : PySem.W.Frag) (a : Addr) (xs : List V) : Prop := ∃ (o : Obj) (its : Array Value) (n : Nat), K.lookup a = some o ∧ o.cls = .type "tuple" ∧ o.data = .seq its n ∧ its.size ≤ sizeLine ∧ Vals xs its.toList
def WrL (K : PySem.W.Frag) (a : Addr) (xs : List V) : Prop := ∃ (o : Obj) (its : Array Value) (n : Nat), K.lookup a = some o ∧ o.cls = .type "list" ∧ o.dict = none ∧ o.data = .seq its n ∧ its.size ≤ sizeLine ∧ Vals xs its.toList

mutual
/-- v stands for d in H; no object of d is in X -/
inductive Rp (K : PySem.W.Frag) (X : Addr → Prop) (H : Hp) : V → P → Prop
  | non : Rp K X H .non .non
  | bl (b : Bool) : Rp K X H (.bl b) (.bl b)
  | int (i : Int) : Rp K X H (.int i) (.int i)
  | str (s : Str) : Rp K X H (.str s) (.str s)
  | tup {a : Addr} {xs : List V} {ds : List P} : Rd H a (.tup xs) → ¬ X a → Rps K X H xs ds → Rp K X H (.ref a) (.tup ds)
  | tupK {a : Addr} {xs : List V} {ds : List P} : WrT K a xs → Rps K X H xs ds → Rp K X H (.ref a) (.tup ds)
  | lst {a : Addr} {xs : List V} {ds : List P} : H a = some (.lst xs) → ¬ X a → Rps K X H xs ds → Rp K X H (.ref a) (.lst ds)
  | scr {a : Addr} {xs : List V} {ds : List P} : Rd H a (.lst xs) → ¬ X a → Rps K X H xs ds → Rp K X H (.ref a) (.scr ds)
  | scrK {a : Addr} {xs : List V} {ds : List P} : WrL K a xs → Rps K X H xs ds → Rp K X H (.ref a) (.scr ds)
  | ins {a C dx : Addr} {ks : List Str} {vs : List V} {ds : List P} : H a = some (.ins C dx (ks.zip vs)) → ¬ X a → ks.length = vs.length → Rps K X H vs ds → Rp K X H (.ref a) (.ins C ks ds)
inductive Rps (K : PySem.W.Frag) (X : Addr → Prop) (H : Hp) : List V → List P → Prop
  | nil : Rps K X H [] []
  | cons {v : V} {vs : List V} {d : P} {ds : List P} : Rp K X H v d → Rps K X H vs ds → Rps K X H (v :: vs) (d :: ds)
end

section
variable {K : PySem.W.Frag} {X X' : Addr → Prop} {H H' : Hp}
theorem Rd.keep {a : Addr} {u : HO} (h : Rd H a u) (k : ∀ o, H a = some o → H' a = some o) : Rd H' a u := by
  rcases h with h | ⟨o, h⟩
  · exact .inl (k _ h)
  · exact .inr ⟨o, k _ h⟩
theorem Rd.is {a : Addr} {u : HO} (h : Rd H a u) : ∃ o, H a = some o := by
  rcases h with h | ⟨o, h⟩
  · exact ⟨_, h⟩
  · exact ⟨_, h⟩
mutual
theorem Rp.mono (hk : ∀ a o, H a = some o → ¬ X a → H' a = some o) (hx : ∀ a o, H a = some o → ¬ X a → ¬ X' a) : ∀ {v : V} {d : P}, Rp K X H v d → Rp K X' H' v d
  | _, _, .non => .non
  | _, _, .bl b => .bl b
  | _, _, .int i => .int i
  | _, _, .str s => .str s
  | _, _, .tup (a := a) h n r => .tup (Rd.keep h fun o e => hk a o e n) (let ⟨o, e⟩ := Rd.is h; hx a o e n) (Rps.mono hk hx r)
  | _, _, .tupK h r => .tupK h (Rps.mono hk hx r)
  | _, _, .lst (a := a) h n r => .lst (hk a _ h n) (hx a _ h n) (Rps.mono hk hx r)
  | _, _, .scr (a := a) h n r => .scr (Rd.keep h fun o e => hk a o e n) (let ⟨o, e⟩ := Rd.is h; hx a o e n) (Rps.mono hk hx r)
  | _, _, .scrK h r => .scrK h (Rps.mono hk hx r)
  | _, _, .ins (a := a) h n l r => .ins (hk a _ h n) (hx a _ h n) l (Rps.mono hk hx r)
theorem Rps.mono (hk : ∀ a o, H a = some o → ¬ X a → H' a = some o) (hx : ∀ a o, H a = some o → ¬ X a → ¬ X' a) : ∀ {vs : List V} {ds : List P}, Rps K X H vs ds → Rps K X' H' vs ds
  | _, _, .nil => .nil
  | _, _, .cons h r => .cons (Rp.mono hk hx h) (Rps.mono hk hx r)
end
theorem Rp.same (s : Same H H') {v : V} {d : P} (h : Rp K X H v d) : Rp K X H' v d := h.mono (fun a o e _ => s a o e) (fun _ _ _ n => n)
theorem Rps.same (s : Same H H') {v : List V} {d : List P} (h : Rps K X H v d) : Rps K X H' v d := h.mono (fun a o e _ => s a o e) (fun _ _ _ n => n)
/-- a smaller set to be kept away from -/
theorem Rp.less (hx : ∀ a, X' a → X a) {v : V} {d : P} (h : Rp K X H v d) : Rp K X' H v d := h.mono (fun _ _ e _ => e) (fun a _ _ n z => n (hx a z))
theorem Rps.less (hx : ∀ a, X' a → X a) {v : List V} {d : List P} (h : Rps K X H v d) : Rps K X' H v d := h.mono (fun _ _ e _ => e) (fun a _ _ n z => n (hx a z))
theorem Rps.length : ∀ {vs : List V} {ds : List P}, Rps K X H vs ds → vs.length = ds.length
  | _, _, .nil => rfl
  | _, _, .cons _ r => congrArg Nat.succ (Rps.length r)
theorem Rps.get : ∀ {vs : List V} {ds : List P} {i : Nat} {d : P}, Rps K X H vs ds → ds[i]? = some d → ∃ v, vs[i]? = some v ∧ Rp K X H v d
  | _, _, _, _, .nil, e => by simp at e
  | _, _, 0, _, .cons h _, e => by simp at e; subst e; exact ⟨_, rfl, h⟩
  | _, _, i + 1, _, .cons _ r, e => by
    obtain ⟨v, h1, h2⟩ := Rps.get (i := i) r (by simpa using e)
    exact ⟨v, by simpa using h1, h2⟩
theorem Rps.getV : ∀ {vs : List V} {ds : List P} {i : Nat} {v : V}, Rps K X H vs ds → vs[i]? = some v → ∃ d, ds[i]? = some d ∧ Rp K X H v d
  | _, _, _, _, .nil, e => by simp at e
  | _, _, 0, _, .cons h _, e => by simp at e; subst e; exact ⟨_, rfl, h⟩
  | _, _, i + 1, _, .cons _ r, e => by
    obtain ⟨v, h1, h2⟩ := Rps.getV (i := i) r (by simpa using e)
    exact ⟨v, by simpa using h1, h2⟩
theorem Rps.append : ∀ {vs ws : List V} {ds es : List P}, Rps K X H vs ds → Rps K X H ws es → Rps K X H (vs ++ ws) (ds ++ es)
  | _, _, _, _, .nil, r => r
  | _, _, _, _, .cons h t, r => .cons h (Rps.append t r)
theorem Rps.take : ∀ {vs : List V} {ds : List P} (n : Nat), Rps K X H vs ds → Rps K X H (vs.take n) (ds.take n)
  | _, _, 0, _ => .nil
  | _, _, _ + 1, .nil => .nil
  | _, _, n + 1, .cons h t => .cons h (Rps.take n t)
theorem Rps.drop : ∀ {vs : List V} {ds : List P} (n : Nat), Rps K X H vs ds → Rps K X H (vs.drop n) (ds.drop n)
  | _, _, 0, r => r
  | _, _, _ + 1, .nil => .nil
  | _, _, n + 1, .cons _ t => Rps.drop n t
theorem Rps.reverse : ∀ {vs : List V} {ds : List P}, Rps K X H vs ds → Rps K X H vs.reverse ds.reverse
  | _, _, .nil => .nil
  | _, _, .cons h t => by
    rw [List.reverse_cons, List.reverse_cons]
    exact Rps.append (Rps.reverse t) (.cons h .nil)
theorem Rps.ints : ∀ {vs : List V} {ns : List Int}, Rps K X H vs (ns.map P.int) → vs = ns.map V.int
  | _, [], r => by cases r; rfl
  | _, n :: ns, r => by
    cases r with
    | cons h t =>
      cases h
      rw [Rps.ints t]
      rfl
theorem Rps.ofInts : ∀ (ns : List Int), Rps K X H (ns.map V.int) (ns.map P.int)
  | [] => .nil
  | n :: ns => .cons (.int n) (Rps.ofInts ns)
theorem Rps.strs : ∀ {vs : List V} {ns : List Str}, Rps K X H vs (ns.map P.str) → vs = ns.map V.str
  | _, [], r => by cases r; rfl
  | _, n :: ns, r => by
    cases r with
    | cons h t =>
      cases h
      rw [Rps.strs t]
      rfl
theorem Rps.bls : ∀ {vs : List V} {ns : List Bool}, Rps K X H vs (ns.map P.bl) → vs = ns.map V.bl
  | _, [], r => by cases r; rfl
  | _, n :: ns, r => by
    cases r with
    | cons h t =>
      cases h
      rw [Rps.bls t]
      rfl
/-- what a tuple, a list is -/
theorem Rp.tupOf {a : V} {ds : List P} (h : Rp K X H a (.tup ds)) : ∃ p xs, a = .ref p ∧ SqT K H p xs ∧ Rps K X H xs ds := by
  cases h with
  | tup h n r => exact ⟨_, _, rfl, .inl h, r⟩
  | tupK h r => exact ⟨_, _, rfl, .inr h, r⟩
theorem Rp.lstOf {a : V} {ds : List P} (h : Rp K X H a (.lst ds)) : ∃ p xs, a = .ref p ∧ H p = some (.lst xs) ∧ ¬ X p ∧ Rps K X H xs ds := by
  cases h with
  | lst h n r => exact ⟨_, _, rfl, h, n, r⟩
theorem Rp.scrOf {a : V} {ds : List P} (h : Rp K X H a (.scr ds)) : ∃ p xs, a = .ref p ∧ SqL K H p xs ∧ Rps K X H xs ds := by
  cases h with
  | scr h n r => exact ⟨_, _, rfl, .inl h, r⟩
  | scrK h r => exact ⟨_, _, rfl, .inr h, r⟩
/-- a new tuple, a new list -/
theorem same_new {p : Addr} {o : HO} (h : H p = none) : Same H (upd H p o) := fun b u e => by
  rw [upd_ne (ne_of_none e h)]
  exact e
theorem Rp.newT {p : Addr} {xs : List V} {ds : List P} (hx : ∀ a, X a → ∃ o, H a = some o) (hp : H p = none) (r : Rps K X H xs ds) : Rp K X (upd H p (.tup xs)) (.ref p) (.tup ds) :=
  .tup (.inl upd_same) (fun z => by obtain ⟨o, e⟩ := hx p z; rw [e] at hp; cases hp) (r.same (same_new hp))
theorem Rp.newL {p : Addr} {xs : List V} {ds : List P} (hx : ∀ a, X a → ∃ o, H a = some o) (hp : H p = none) (r : Rps K X H xs ds) : Rp K X (upd H p (.lst xs)) (.ref p) (.lst ds) :=
  .lst upd_same (fun z => by obtain ⟨o, e⟩ := hx p z; rw [e] at hp; cases hp) (r.same (same_new hp))
end

/-! ### changing things: cells -/
/-- a value: data, or the k-th cell -/
inductive D where
  | v (p : P) | c (k : Nat)
/-- what a cell holds: a list's items, an instance's attributes -/
inductive MC where
  | l (ds : List D) | o (C : Addr) (ks : List Str) (ds : List D)
abbrev Env := List (Option D)
abbrev Mem := List MC
abbrev XA (X : Addr → Prop) (A : List Addr) : Addr → Prop := fun a => X a ∨ a ∈ A
inductive RD (K : PySem.W.Frag) (X : Addr → Prop) (A : List Addr) (H : Hp) : V → D → Prop
  | v {v : V} {p : P} : Rp K (XA X A) H v p → RD K X A H v (.v p)
  | c {a : Addr} {k : Nat} : A[k]? = some a → RD K X A H (.ref a) (.c k)
inductive RDs (K : PySem.W.Frag) (X : Addr → Prop) (A : List Addr) (H : Hp) : List V → List D → Prop
  | nil : RDs K X A H [] []
  | cons {v : V} {vs : List V} {d : D} {ds : List D} : RD K X A H v d → RDs K X A H vs ds → RDs K X A H (v :: vs) (d :: ds)
def CellAt (K : PySem.W.Frag) (X : Addr → Prop) (A : List Addr) (H : Hp) (a : Addr) : MC → Prop
  | .l ds => ∃ xs, H a = some (.lst xs) ∧ RDs K X A H xs ds
  | .o C ks ds => ∃ dx vs, H a = some (.ins C dx (ks.zip vs)) ∧ ks.length = vs.length ∧ RDs K X A H vs ds
structure Cells (K : PySem.W.Frag) (X : Addr → Prop) (A : List Addr) (M : Mem) (H : Hp) : Prop where
  nd : A.Nodup
  len : A.length = M.length
  at_ : ∀ (k : Nat) (a : Addr) (c : MC), A[k]? = some a → M[k]? = some c → CellAt K X A H a c
  xs : ∀ a, X a → ∃ o, H a = some o
  dj : ∀ a, X a → a ∉ A
structure Tr (A : List Addr) (H : Hp) (A' : List Addr) (H' : Hp) : Prop where
  ext : ∃ B, A' = A ++ B ∧ ∀ b ∈ B, H b = none
  keep : ∀ a o, H a = some o → a ∉ A → H' a = some o
  stay : ∀ a o, H a = some o → ∃ o', H' a = some o'
/-- an object is preserved or a cell of a list or an instance; tuples are never cells -/
structure Sl (K : PySem.W.Frag) (X : Addr → Prop) (A : List Addr) (Γ : Env) (σ : L2.St) (H : Hp) : Prop where
  len : σ.length = Γ.length
  at_ : ∀ (i : Nat) (d : D), Γ[i]? = some (some d) → ∃ v, σ[i]? = some (some v) ∧ RD K X A H v d

section
variable {K : PySem.W.Frag} {X : Addr → Prop} {A A1 A2 : List Addr} {H H1 H2 : Hp} {M : Mem}
theorem Tr.refl : Tr A H A H := ⟨⟨[], by simp, by simp⟩, fun _ _ e _ => e, fun _ o e => ⟨o, e⟩⟩
theorem Tr.trans (s : Tr A H A1 H1) (t : Tr A1 H1 A2 H2) : Tr A H A2 H2 := by
  obtain ⟨B1, e1, f1⟩ := s.ext
  obtain ⟨B2, e2, f2⟩ := t.ext
  refine ⟨⟨B1 ++ B2, by rw [e2, e1, List.append_assoc], fun b hb => ?_⟩, fun a o e n => ?_, fun a o e => ?_⟩
  · rcases List.mem_append.mp hb with h | h
    · exact f1 b h
    · cases q : H b with
      | none => rfl
      | some o =>
        obtain ⟨o', e'⟩ := s.stay b o q
        rw [f2 b h] at e'
        cases e'
  · refine t.keep a o (s.keep a o e n) fun z => ?_
    rw [e1] at z
    rcases List.mem_append.mp z with h | h
    · exact n h
    · rw [f1 a h] at e
      cases e
  · obtain ⟨o1, q1⟩ := s.stay a o e
    exact t.stay a o1 q1
theorem Tr.rp (s : Tr A H A1 H1) {v : V} {d : P} (h : Rp K (XA X A) H v d) : Rp K (XA X A1) H1 v d := by
  obtain ⟨B, e, f⟩ := s.ext
  refine h.mono (fun a o q n => s.keep a o q fun z => n (.inr z)) fun a o q n z => ?_
  rcases z with z | z
  · exact n (.inl z)
  · rw [e] at z
    rcases List.mem_append.mp z with z | z
    · exact n (.inr z)
    · rw [f a z] at q
      cases q
theorem Tr.rd (s : Tr A H A1 H1) {v : V} {d : D} (h : RD K X A H v d) : RD K X A1 H1 v d := by
  cases h with
  | v r => exact .v (s.rp r)
  | c e =>
    obtain ⟨B, q, _⟩ := s.ext
    refine .c ?_
    rw [q, List.getElem?_append_left (List.getElem?_eq_some_iff.mp e).1]
    exact e
theorem Tr.rds (s : Tr A H A1 H1) : ∀ {v : List V} {d : List D}, RDs K X A H v d → RDs K X A1 H1 v d
  | _, _, .nil => .nil
  | _, _, .cons h r => .cons (s.rd h) (Tr.rds s r)
theorem Tr.sl (s : Tr A H A1 H1) {Γ : Env} {σ : L2.St} (h : Sl K X A Γ σ H) : Sl K X A1 Γ σ H1 := ⟨h.len, fun i d e => by
  obtain ⟨v, e1, r⟩ := h.at_ i d e
  exact ⟨v, e1, s.rd r⟩⟩
theorem Tr.ofSame (s : Same H H1) : Tr A H A H1 := ⟨⟨[], by simp, by simp⟩, fun a o e _ => s a o e, fun a o e => ⟨o, s a o e⟩⟩
theorem Cells.is (c : Cells K X A M H) {a : Addr} (h : a ∈ A) : ∃ o, H a = some o := by
  obtain ⟨k, e⟩ := List.getElem?_of_mem h
  have hk : k < M.length := by rw [← c.len]; exact (List.getElem?_eq_some_iff.mp e).1
  have q := c.at_ k a M[k] e (List.getElem?_eq_getElem hk)
  cases hm : M[k] with
  | l ds => rw [hm] at q; obtain ⟨xs, e, _⟩ := q; exact ⟨_, e⟩
  | o C ks ds => rw [hm] at q; obtain ⟨dx, vs, e, _⟩ := q; exact ⟨_, e⟩
theorem Cells.xa (c : Cells K X A M H) : ∀ a, XA X A a → ∃ o, H a = some o := fun a h => by
  rcases h with h | h
  · exact c.xs a h
  · exact c.is h
theorem CellAt.tr (s : Tr A H A1 H1) {a : Addr} {c : MC} (h : CellAt K X A H a c) (k : ∀ o, H a = some o → H1 a = some o) : CellAt K X A1 H1 a c := by
  cases c with
  | l ds => obtain ⟨xs, e, r⟩ := h; exact ⟨xs, k _ e, s.rds r⟩
  | o C ks ds => obtain ⟨dx, vs, e, l, r⟩ := h; exact ⟨dx, vs, k _ e, l, s.rds r⟩
/-- everything stands as it stood -/
theorem Cells.same (c : Cells K X A M H) (s : Same H H1) : Cells K X A M H1 := ⟨c.nd, c.len, fun k a m e1 e2 => (c.at_ k a m e1 e2).tr (Tr.ofSame s) (s a), fun a h => by
  obtain ⟨o, e⟩ := c.xs a h
  exact ⟨o, s a o e⟩, c.dj⟩
theorem RDs.length : ∀ {vs : List V} {ds : List D}, RDs K X A H vs ds → vs.length = ds.length
  | _, _, .nil => rfl
  | _, _, .cons _ r => congrArg Nat.succ (RDs.length r)
theorem RDs.get : ∀ {vs : List V} {ds : List D} {i : Nat} {d : D}, RDs K X A H vs ds → ds[i]? = Option.some d → ∃ v, vs[i]? = Option.some v ∧ RD K X A H v d
  | _, _, _, _, .nil, e => by simp at e
  | _, _, 0, _, .cons h _, e => by simp at e; subst e; exact ⟨_, rfl, h⟩
  | _, _, i + 1, _, .cons _ r, e => by
    obtain ⟨v, h1, h2⟩ := RDs.get (i := i) r (by simpa using e)
    exact ⟨v, by simpa using h1, h2⟩
theorem RDs.set {v : V} {d : D} (h : RD K X A H v d) : ∀ {vs : List V} {ds : List D} (i : Nat), RDs K X A H vs ds → RDs K X A H (vs.set i v) (ds.set i d)
  | _, _, _, .nil => .nil
  | _, _, 0, .cons _ r => .cons h r
  | _, _, i + 1, .cons q r => .cons q (RDs.set h i r)
theorem RDs.append : ∀ {vs ws : List V} {ds es : List D}, RDs K X A H vs ds → RDs K X A H ws es → RDs K X A H (vs ++ ws) (ds ++ es)
  | _, _, _, _, .nil, r => r
  | _, _, _, _, .cons h t, r => .cons h (RDs.append t r)
theorem RDs.erase : ∀ {vs : List V} {ds : List D} (i : Nat), RDs K X A H vs ds → RDs K X A H (vs.eraseIdx i) (ds.eraseIdx i)
  | _, _, _, .nil => .nil
  | _, _, 0, .cons _ r => r
  | _, _, i + 1, .cons q r => .cons q (RDs.erase i r)
theorem RDs.insert {v : V} {d : D} (h : RD K X A H v d) : ∀ {vs : List V} {ds : List D} (i : Nat), RDs K X A H vs ds → RDs K X A H (vs.take i ++ v :: vs.drop i) (ds.take i ++ d :: ds.drop i)
  | _, _, 0, r => .cons h r
  | _, _, i + 1, .nil => .cons h .nil
  | _, _, i + 1, .cons q r => .cons q (RDs.insert h i r)
theorem RDs.ofRps : ∀ {vs : List V} {ds : List P}, Rps K (XA X A) H vs ds → RDs K X A H vs (ds.map .v)
  | _, _, .nil => .nil
  | _, _, .cons h r => .cons (.v h) (RDs.ofRps r)
theorem RDs.toRps : ∀ {vs : List V} {ds : List P}, RDs K X A H vs (ds.map .v) → Rps K (XA X A) H vs ds
  | _, [], r => by cases r; exact .nil
  | _, _ :: _, r => by
    cases r with
    | cons h t => cases h with
      | v h => exact .cons h (RDs.toRps t)
end

/-! ### frozen: a cell's content as data; the cells below n stay cells -/
mutual
inductive Fz (n : Nat) (M : Mem) : D → P → Prop
  | v (p : P) : Fz n M (.v p) p
  | c {k : Nat} {ds : List D} {ps : List P} : n ≤ k → M[k]? = some (.l ds) → Fzs n M ds ps → Fz n M (.c k) (.lst ps)
  | o {k : Nat} {C : Addr} {ks : List Str} {ds : List D} {ps : List P} : n ≤ k → M[k]? = some (.o C ks ds) → Fzs n M ds ps → Fz n M (.c k) (.ins C ks ps)
inductive Fzs (n : Nat) (M : Mem) : List D → List P → Prop
  | nil : Fzs n M [] []
  | cons {d : D} {ds : List D} {p : P} {ps : List P} : Fz n M d p → Fzs n M ds ps → Fzs n M (d :: ds) (p :: ps)
end
theorem Fzs.vs (n : Nat) (M : Mem) : ∀ (ps : List P), Fzs n M (ps.map .v) ps
  | [] => .nil
  | p :: ps => .cons (.v p) (Fzs.vs n M ps)
section
variable {K : PySem.W.Frag} {X : Addr → Prop} {A : List Addr} {H : Hp} {M : Mem} {n : Nat}
theorem nd_take : ∀ {A : List Addr} {n k : Nat} {a : Addr}, A.Nodup → A[k]? = some a → n ≤ k → a ∉ A.take n := fun {A n k a} nd e h z => by
  obtain ⟨j, hj⟩ := List.getElem?_of_mem z
  have hj2 : j < n := by
    have := (List.getElem?_eq_some_iff.mp hj).1
    rw [List.length_take] at this
    omega
  rw [List.getElem?_take_of_lt hj2] at hj
  have e2 : j = k := (List.getElem?_inj (List.getElem?_eq_some_iff.mp hj).1 nd).mp (hj.trans e.symm)
  omega
mutual
theorem Fz.rp (hc : Cells K X A M H) : ∀ {d : D} {p : P} {v : V}, Fz n M d p → RD K X A H v d → Rp K (XA X (A.take n)) H v p
  | _, _, _, .v p, .v r => r.less fun a z => z.elim .inl fun z => .inr (List.mem_of_mem_take z)
  | _, _, _, .c (k := k) l e f, .c (a := a) ea => by
    obtain ⟨xs, h, r⟩ := hc.at_ k a _ ea e
    exact .lst h (fun z => z.elim (fun z => hc.dj a z (List.mem_of_getElem? ea)) (nd_take hc.nd ea l)) (Fzs.rps hc f r)
  | _, _, _, .o (k := k) l e f, .c (a := a) ea => by
    obtain ⟨dx, vs, h, q, r⟩ := hc.at_ k a _ ea e
    exact .ins h (fun z => z.elim (fun z => hc.dj a z (List.mem_of_getElem? ea)) (nd_take hc.nd ea l)) q (Fzs.rps hc f r)
theorem Fzs.rps (hc : Cells K X A M H) : ∀ {d : List D} {p : List P} {v : List V}, Fzs n M d p → RDs K X A H v d → Rps K (XA X (A.take n)) H v p
  | _, _, _, .nil, .nil => .nil
  | _, _, _, .cons f t, .cons r s => .cons (Fz.rp hc f r) (Fzs.rps hc t s)
end
theorem Fz.rp0 (hc : Cells K X A M H) {d : D} {p : P} {v : V} (f : Fz 0 M d p) (r : RD K X A H v d) : Rp K X H v p := (Fz.rp hc f r).less fun _ z => .inl z
theorem Fzs.rps0 (hc : Cells K X A M H) {d : List D} {p : List P} {v : List V} (f : Fzs 0 M d p) (r : RDs K X A H v d) : Rps K X H v p := (Fzs.rps hc f r).less fun _ z => .inl z
end
end Z
set_option maxRecDepth 100000
set_option maxHeartbeats 4000000
/-! The calculus: what an expression, a test, arguments, a statement do to slots and cells. -/
namespace Z
open PySem PySem.Spec PyProof.Rows L2

structure St (K : PySem.W.Frag) (X : Addr → Prop) (A : List Addr) (M : Mem) (Γ : Env) (σ : L2.St) (H : Hp) : Prop where
  ce : Cells K X A M H
  sl : Sl K X A Γ σ H

/-- an expression: behind it the cells are M', its value is d: Φ M' d -/
def EV (K : PySem.W.Frag) (te : TE) (Γ : Env) (M : Mem) (Φ : Mem → D → Prop) : Prop :=
  ∀ (X : Addr → Prop) (A : List Addr) (σ : L2.St) (H : Hp), St K X A M Γ σ H → ∀ Q : VK, (∀ A' M' v d H', Tr A H A' H' → St K X A' M' Γ σ H' → RD K X A' H' v d → Φ M' d → Q v H') → te σ H Q
def EA (K : PySem.W.Frag) (ta : TA) (Γ : Env) (M : Mem) (Φ : Mem → List D → Prop) : Prop :=
  ∀ (X : Addr → Prop) (A : List Addr) (σ : L2.St) (H : Hp), St K X A M Γ σ H → ∀ Q : List V → Hp → Prop, (∀ A' M' v d H', Tr A H A' H' → St K X A' M' Γ σ H' → RDs K X A' H' v d → Φ M' d → Q v H') → ta σ H Q
def ET (K : PySem.W.Frag) (tt : TT) (Γ : Env) (M : Mem) (Φ : Mem → Bool → Prop) : Prop :=
  ∀ (X : Addr → Prop) (A : List Addr) (σ : L2.St) (H : Hp), St K X A M Γ σ H → ∀ Q : Bool → Hp → Prop, (∀ A' M' b H', Tr A H A' H' → St K X A' M' Γ σ H' → Φ M' b → Q b H') → tt σ H Q
/-- what is wanted behind a statement, over slots and cells -/
structure DE where
  nx : Env → Mem → Prop
  rt : Mem → D → Prop
  bk : Env → Mem → Prop := fun _ _ => False
  ct : Env → Mem → Prop := fun _ _ => False
structure Rz (K : PySem.W.Frag) (X : Addr → Prop) (A0 : List Addr) (H0 : Hp) (Dd : Ends) (E : DE) : Prop where
  nx : ∀ A M Γ σ H, Tr A0 H0 A H → St K X A M Γ σ H → E.nx Γ M → Dd.nx σ H
  rt : ∀ A M Γ σ H v d, Tr A0 H0 A H → St K X A M Γ σ H → RD K X A H v d → E.rt M d → Dd.rt v H
  bk : ∀ A M Γ σ H, Tr A0 H0 A H → St K X A M Γ σ H → E.bk Γ M → Dd.bk σ H
  ct : ∀ A M Γ σ H, Tr A0 H0 A H → St K X A M Γ σ H → E.ct Γ M → Dd.ct σ H
/-- a statement, a block; n: the cells below n are not ours to let go of -/
def SV (K : PySem.W.Frag) (n : Nat) (t : TS) (Γ : Env) (M : Mem) (E : DE) : Prop :=
  ∀ (X : Addr → Prop) (A0 : List Addr) (H0 : Hp), A0.length = n → ∀ (A : List Addr) (σ : L2.St) (H : Hp) (Dd : Ends), Tr A0 H0 A H → St K X A M Γ σ H → Rz K X A0 H0 Dd E → t Dd σ H

/-- the usual expression: it changes nothing and gives data -/
def EP (K : PySem.W.Frag) (te : TE) (Γ : Env) (M : Mem) (p : P) : Prop := EV K te Γ M fun M' d => M' = M ∧ d = .v p
/-- .. it gives data, or a cell that holds it -/
def EF (K : PySem.W.Frag) (te : TE) (Γ : Env) (M : Mem) (p : P) : Prop := EV K te Γ M fun M' d => M' = M ∧ Fz 0 M d p
def EPs (K : PySem.W.Frag) (ta : TA) (Γ : Env) (M : Mem) (ps : List P) : Prop := EA K ta Γ M fun M' ds => M' = M ∧ ds = ps.map .v
def EFs (K : PySem.W.Frag) (ta : TA) (Γ : Env) (M : Mem) (ps : List P) : Prop := EA K ta Γ M fun M' ds => M' = M ∧ Fzs 0 M ds ps
def EB (K : PySem.W.Frag) (tt : TT) (Γ : Env) (M : Mem) (b : Bool) : Prop := ET K tt Γ M fun M' b' => M' = M ∧ b' = b

section
variable {K : PySem.W.Frag} {te ta tb tc : TE} {tt tu : TT} {tar : TA} {Γ : Env} {M : Mem} {Φ Ψ : Mem → D → Prop} {Φs Ψs : Mem → List D → Prop} {Φt Ψt : Mem → Bool → Prop} {p q z : P} {ps : List P} {b c : Bool}
theorem St.tr {X : Addr → Prop} {A A' : List Addr} {σ : L2.St} {H H' : Hp} {M' : Mem} (s : St K X A M Γ σ H) (t : Tr A H A' H') (c : Cells K X A' M' H') : St K X A' M' Γ σ H' := ⟨c, t.sl s.sl⟩
theorem St.same {X : Addr → Prop} {A : List Addr} {σ : L2.St} {H H' : Hp} (s : St K X A M Γ σ H) (t : Same H H') : St K X A M Γ σ H' := ⟨s.ce.same t, (Tr.ofSame t).sl s.sl⟩
theorem EV.imp (h : EV K te Γ M Φ) (i : ∀ M' d, Φ M' d → Ψ M' d) : EV K te Γ M Ψ := fun X A σ H s Q q => h X A σ H s Q fun A' M' v d H' t s' r f => q A' M' v d H' t s' r (i _ _ f)
theorem EA.imp (h : EA K tar Γ M Φs) (i : ∀ M' d, Φs M' d → Ψs M' d) : EA K tar Γ M Ψs := fun X A σ H s Q q => h X A σ H s Q fun A' M' v d H' t s' r f => q A' M' v d H' t s' r (i _ _ f)
theorem ET.imp (h : ET K tt Γ M Φt) (i : ∀ M' d, Φt M' d → Ψt M' d) : ET K tt Γ M Ψt := fun X A σ H s Q q => h X A σ H s Q fun A' M' b H' t s' f => q A' M' b H' t s' (i _ _ f)
theorem ev_ep (h : EP K te Γ M p) (f : Φ M (.v p)) : EV K te Γ M Φ := h.imp fun M' d ⟨e1, e2⟩ => by rw [e1, e2]; exact f
theorem ea_ep (h : EPs K tar Γ M ps) (f : Φs M (ps.map .v)) : EA K tar Γ M Φs := h.imp fun M' d ⟨e1, e2⟩ => by rw [e1, e2]; exact f
theorem et_eb (h : EB K tt Γ M b) (f : Φt M b) : ET K tt Γ M Φt := h.imp fun M' d ⟨e1, e2⟩ => by rw [e1, e2]; exact f
theorem ef_ep (h : EP K te Γ M p) : EF K te Γ M p := h.imp fun M' d ⟨e1, e2⟩ => ⟨e1, by rw [e2]; exact .v p⟩
theorem efs_eps (h : EPs K tar Γ M ps) : EFs K tar Γ M ps := h.imp fun M' d ⟨e1, e2⟩ => ⟨e1, by rw [e2]; exact Fzs.vs 0 M ps⟩
theorem ep_is (h : EP K te Γ M p) (e : p = q) : EP K te Γ M q := e ▸ h
theorem eb_is (h : EB K tt Γ M b) (e : b = c) : EB K tt Γ M c := e ▸ h

/-! ### names, constants -/
theorem ev_var {i : Nat} {d : D} (e : Γ[i]? = some (some d)) (f : Φ M d) : EV K (tVar i) Γ M Φ := fun X A σ H s Q q => by
  obtain ⟨v, e1, r⟩ := s.sl.at_ i d e
  exact ⟨v, e1, q A M v d H .refl s r f⟩
theorem ep_var {i : Nat} (e : Γ[i]? = some (some (.v p))) : EP K (tVar i) Γ M p := ev_var e ⟨rfl, rfl⟩
theorem ef_var {i : Nat} {d : D} (e : Γ[i]? = some (some d)) (f : Fz 0 M d p) : EF K (tVar i) Γ M p := ev_var e ⟨rfl, f⟩
theorem ep_int {i : Int} : EP K (tC (.int i)) Γ M (.int i) := fun X A σ H s Q q => q A M _ _ H .refl s (.v (.int i)) ⟨rfl, rfl⟩
theorem ep_str {i : Str} : EP K (tC (.str i)) Γ M (.str i) := fun X A σ H s Q q => q A M _ _ H .refl s (.v (.str i)) ⟨rfl, rfl⟩
theorem ep_bl {i : Bool} : EP K (tC (.bl i)) Γ M (.bl i) := fun X A σ H s Q q => q A M _ _ H .refl s (.v (.bl i)) ⟨rfl, rfl⟩
theorem ep_non : EP K (tC .non) Γ M .non := fun X A σ H s Q q => q A M _ _ H .refl s (.v .non) ⟨rfl, rfl⟩

/-! ### operations by values -/
def RV (K : PySem.W.Frag) (r : R2) (p q z : P) : Prop := ∀ (X : Addr → Prop) (H : Hp) (x y : V), (∀ a, X a → ∃ o, H a = some o) → Rp K X H x p → Rp K X H y q → ∀ Q : VK, (∀ v H', Same H H' → Rp K X H' v z → Q v H') → r x y H Q
def RU (K : PySem.W.Frag) (r : V → Hp → VK → Prop) (p z : P) : Prop := ∀ (X : Addr → Prop) (H : Hp) (x : V), (∀ a, X a → ∃ o, H a = some o) → Rp K X H x p → ∀ Q : VK, (∀ v H', Same H H' → Rp K X H' v z → Q v H') → r x H Q
def RC (K : PySem.W.Frag) (r : List V → Hp → VK → Prop) (ps : List P) (z : P) : Prop := ∀ (X : Addr → Prop) (H : Hp) (xs : List V), (∀ a, X a → ∃ o, H a = some o) → Rps K X H xs ps → ∀ Q : VK, (∀ v H', Same H H' → Rp K X H' v z → Q v H') → r xs H Q
/-- data without objects -/
def flat : P → Bool
  | .non => true | .bl _ => true | .int _ => true | .str _ => true | _ => false
theorem flat_rp {X X' : Addr → Prop} {H H' : Hp} {v : V} (f : flat z = true) (r : Rp K X H v z) : Rp K X' H' v z := by
  cases r with
  | non => exact .non
  | bl b => exact .bl b
  | int i => exact .int i
  | str s => exact .str s
  | tup _ _ _ => cases f
  | tupK _ _ => cases f
  | lst _ _ _ => cases f
  | scr _ _ _ => cases f
  | scrK _ _ => cases f
  | ins _ _ _ _ => cases f
theorem RD.toRp {X : Addr → Prop} {A : List Addr} {H : Hp} {v : V} (h : RD K X A H v (.v p)) : Rp K (XA X A) H v p := by
  cases h with
  | v r => exact r
/-- seen with the cells as data -/
theorem Cells.fz {X : Addr → Prop} {A : List Addr} {H : Hp} {v : V} {d : D} (c : Cells K X A M H) (f : Fz 0 M d p) (r : RD K X A H v d) : Rp K X H v p := Fz.rp0 c f r
theorem ep_op {r : R2} (ha : EP K ta Γ M p) (hb : EP K tb Γ M q) (hr : RV K r p q z) : EP K (tOp r ta tb) Γ M z := fun X A σ H s Q k =>
  ha X A σ H s _ fun A1 M1 v1 d1 H1 t1 s1 r1 ⟨e1, e2⟩ => by
    subst e1 e2
    refine hb X A1 σ H1 s1 _ fun A2 M2 v2 d2 H2 t2 s2 r2 ⟨e1, e2⟩ => ?_
    subst e1 e2
    exact hr (XA X A2) H2 v1 v2 s2.ce.xa (t2.rp r1.toRp) r2.toRp Q fun v H' sm rz => k A2 _ v (.v z) H' ((t1.trans t2).trans (.ofSame sm)) (s2.same sm) (.v rz) ⟨rfl, rfl⟩
theorem ef_op {r : R2} (ha : EF K ta Γ M p) (hb : EF K tb Γ M q) (hr : RV K r p q z) (hf : flat z = true) : EP K (tOp r ta tb) Γ M z := fun X A σ H s Q k =>
  ha X A σ H s _ fun A1 M1 v1 d1 H1 t1 s1 r1 ⟨e1, e2⟩ => by
    subst e1
    refine hb X A1 σ H1 s1 _ fun A2 M2 v2 d2 H2 t2 s2 r2 ⟨e1, e3⟩ => ?_
    subst e1
    exact hr X H2 v1 v2 s2.ce.xs (s2.ce.fz e2 (t2.rd r1)) (s2.ce.fz e3 r2) Q fun v H' sm rz => k A2 _ v (.v z) H' ((t1.trans t2).trans (.ofSame sm)) (s2.same sm) (.v (flat_rp hf rz)) ⟨rfl, rfl⟩
theorem ev_op {r : R2} (ha : EV K ta Γ M fun M1 d1 => ∃ p, d1 = .v p ∧ EV K tb Γ M1 fun M2 d2 => ∃ q, d2 = .v q ∧ ∃ z, RV K r p q z ∧ Φ M2 (.v z)) : EV K (tOp r ta tb) Γ M Φ := fun X A σ H s Q k =>
  ha X A σ H s _ fun A1 M1 v1 d1 H1 t1 s1 r1 ⟨p, e1, hb⟩ => by
    subst e1
    refine hb X A1 σ H1 s1 _ fun A2 M2 v2 d2 H2 t2 s2 r2 ⟨q, e1, z, hr, f⟩ => ?_
    subst e1
    exact hr (XA X A2) H2 v1 v2 s2.ce.xa (t2.rp r1.toRp) r2.toRp Q fun v H' sm rz => k A2 _ v (.v z) H' ((t1.trans t2).trans (.ofSame sm)) (s2.same sm) (.v rz) f
theorem ep_un {r : V → Hp → VK → Prop} (ha : EP K ta Γ M p) (hr : RU K r p z) : EP K (tUn r ta) Γ M z := fun X A σ H s Q k =>
  ha X A σ H s _ fun A1 M1 v1 d1 H1 t1 s1 r1 ⟨e1, e2⟩ => by
    subst e1 e2
    exact hr (XA X A1) H1 v1 s1.ce.xa r1.toRp Q fun v H' sm rz => k A1 _ v (.v z) H' (t1.trans (.ofSame sm)) (s1.same sm) (.v rz) ⟨rfl, rfl⟩
/-! ### arguments, displays, calls of built-ins -/
theorem eps_nil : EPs K tNil Γ M [] := fun X A σ H s Q q => q A M [] [] H .refl s .nil ⟨rfl, rfl⟩
theorem eps_cons (h : EP K ta Γ M p) (t : EPs K tar Γ M ps) : EPs K (tCons ta tar) Γ M (p :: ps) := fun X A σ H s Q k =>
  h X A σ H s _ fun A1 M1 v1 d1 H1 t1 s1 r1 ⟨e1, e2⟩ => by
    subst e1 e2
    refine t X A1 σ H1 s1 _ fun A2 M2 v2 d2 H2 t2 s2 r2 ⟨e1, e2⟩ => ?_
    subst e1 e2
    exact k A2 _ _ _ H2 (t1.trans t2) s2 (.cons (t2.rd r1) r2) ⟨rfl, rfl⟩
theorem efs_nil : EFs K tNil Γ M [] := fun X A σ H s Q q => q A M [] [] H .refl s .nil ⟨rfl, .nil⟩
theorem efs_cons (h : EF K ta Γ M p) (t : EFs K tar Γ M ps) : EFs K (tCons ta tar) Γ M (p :: ps) := fun X A σ H s Q k =>
  h X A σ H s _ fun A1 M1 v1 d1 H1 t1 s1 r1 ⟨e1, e2⟩ => by
    subst e1
    refine t X A1 σ H1 s1 _ fun A2 M2 v2 d2 H2 t2 s2 r2 ⟨e1, e3⟩ => ?_
    subst e1
    exact k A2 _ _ _ H2 (t1.trans t2) s2 (.cons (t2.rd r1) r2) ⟨rfl, .cons e2 e3⟩
theorem ea_nil (f : Φs M []) : EA K tNil Γ M Φs := fun X A σ H s Q q => q A M [] [] H .refl s .nil f
theorem ea_cons (h : EV K ta Γ M fun M1 d => EA K tar Γ M1 fun M2 ds => Φs M2 (d :: ds)) : EA K (tCons ta tar) Γ M Φs := fun X A σ H s Q k =>
  h X A σ H s _ fun A1 M1 v1 d1 H1 t1 s1 r1 t => t X A1 σ H1 s1 _ fun A2 M2 v2 d2 H2 t2 s2 r2 f => k A2 M2 _ _ H2 (t1.trans t2) s2 (.cons (t2.rd r1) r2) f
theorem ep_tup (h : EPs K tar Γ M ps) (hl : ps.length ≤ sizeLine) : EP K (tTup tar) Γ M (.tup ps) := fun X A σ H s Q k =>
  h X A σ H s _ fun A1 M1 v1 d1 H1 t1 s1 r1 ⟨e1, e2⟩ => by
    subst e1 e2
    have rr := r1.toRps
    refine ⟨by rw [Rps.length rr]; exact hl, fun p hp => ?_⟩
    exact k A1 _ _ (.v (.tup ps)) _ (t1.trans (.ofSame (same_new hp))) (s1.same (same_new hp)) (.v (Rp.newT s1.ce.xa hp rr)) ⟨rfl, rfl⟩
theorem ep_lst (h : EPs K tar Γ M ps) (hl : ps.length ≤ sizeLine) : EP K (tLst tar) Γ M (.lst ps) := fun X A σ H s Q k =>
  h X A σ H s _ fun A1 M1 v1 d1 H1 t1 s1 r1 ⟨e1, e2⟩ => by
    subst e1 e2
    have rr := r1.toRps
    refine ⟨by rw [Rps.length rr]; exact hl, fun p hp => ?_⟩
    exact k A1 _ _ (.v (.lst ps)) _ (t1.trans (.ofSame (same_new hp))) (s1.same (same_new hp)) (.v (Rp.newL s1.ce.xa hp rr)) ⟨rfl, rfl⟩
theorem ep_cb {r : List V → Hp → VK → Prop} (h : EPs K tar Γ M ps) (hr : RC K r ps z) : EP K (tCB r tar) Γ M z := fun X A σ H s Q k =>
  h X A σ H s _ fun A1 M1 v1 d1 H1 t1 s1 r1 ⟨e1, e2⟩ => by
    subst e1 e2
    exact hr (XA X A1) H1 v1 s1.ce.xa r1.toRps Q fun v H' sm rz => k A1 _ v (.v z) H' (t1.trans (.ofSame sm)) (s1.same sm) (.v rz) ⟨rfl, rfl⟩
theorem Cells.fzs {X : Addr → Prop} {A : List Addr} {H : Hp} {v : List V} {d : List D} (c : Cells K X A M H) (f : Fzs 0 M d ps) (r : RDs K X A H v d) : Rps K X H v ps := Fzs.rps0 c f r
theorem ef_cb {r : List V → Hp → VK → Prop} (h : EFs K tar Γ M ps) (hr : RC K r ps z) (hf : flat z = true) : EP K (tCB r tar) Γ M z := fun X A σ H s Q k =>
  h X A σ H s _ fun A1 M1 v1 d1 H1 t1 s1 r1 ⟨e1, e2⟩ => by
    subst e1
    exact hr X H1 v1 s1.ce.xs (s1.ce.fzs e2 r1) Q fun v H' sm rz => k A1 _ v (.v z) H' (t1.trans (.ofSame sm)) (s1.same sm) (.v (flat_rp hf rz)) ⟨rfl, rfl⟩
theorem ev_cb {r : List V → Hp → VK → Prop} (h : EA K tar Γ M fun M1 ds => ∃ ps, ds = ps.map .v ∧ ∃ z, RC K r ps z ∧ Φ M1 (.v z)) : EV K (tCB r tar) Γ M Φ := fun X A σ H s Q k =>
  h X A σ H s _ fun A1 M1 v1 d1 H1 t1 s1 r1 ⟨ps, e1, z, hr, f⟩ => by
    subst e1
    exact hr (XA X A1) H1 v1 s1.ce.xa r1.toRps Q fun v H' sm rz => k A1 _ v (.v z) H' (t1.trans (.ofSame sm)) (s1.same sm) (.v rz) f
/-! ### tests -/
theorem et_test (h : EV K te Γ M fun M' d => ∃ b, d = .v (.bl b) ∧ Φt M' b) : ET K (tTest te) Γ M Φt := fun X A σ H s Q k =>
  h X A σ H s _ fun A1 M1 v1 d1 H1 t1 s1 r1 ⟨b, e, f⟩ => by
    subst e
    cases r1 with
    | v r => cases r; exact ⟨b, rfl, k A1 M1 b H1 t1 s1 f⟩
theorem et_B (h : EV K te Γ M fun M' d => ∃ b, d = .v (.bl b) ∧ Φt M' b) : ET K (tB te) Γ M Φt := fun X A σ H s Q k =>
  h X A σ H s _ fun A1 M1 v1 d1 H1 t1 s1 r1 ⟨b, e, f⟩ => by
    subst e
    cases r1 with
    | v r => cases r; exact ⟨b, rfl, k A1 M1 b H1 t1 s1 f⟩
theorem eb_test (h : EP K te Γ M (.bl b)) : EB K (tTest te) Γ M b := et_test (ev_ep h ⟨b, rfl, rfl, rfl⟩)
theorem eb_B (h : EP K te Γ M (.bl b)) : EB K (tB te) Γ M b := et_B (ev_ep h ⟨b, rfl, rfl, rfl⟩)
theorem et_and (h : ET K tt Γ M fun M1 b1 => if b1 = true then ET K tu Γ M1 Φt else Φt M1 false) : ET K (tAnd tt tu) Γ M Φt := fun X A σ H s Q k =>
  h X A σ H s _ fun A1 M1 b1 H1 t1 s1 f => by
    cases b1 with
    | true => exact f X A1 σ H1 s1 Q fun A2 M2 b2 H2 t2 s2 f2 => k A2 M2 b2 H2 (t1.trans t2) s2 f2
    | false => exact k A1 M1 false H1 t1 s1 f
theorem et_or (h : ET K tt Γ M fun M1 b1 => if b1 = true then Φt M1 true else ET K tu Γ M1 Φt) : ET K (tOr tt tu) Γ M Φt := fun X A σ H s Q k =>
  h X A σ H s _ fun A1 M1 b1 H1 t1 s1 f => by
    cases b1 with
    | false => exact f X A1 σ H1 s1 Q fun A2 M2 b2 H2 t2 s2 f2 => k A2 M2 b2 H2 (t1.trans t2) s2 f2
    | true => exact k A1 M1 true H1 t1 s1 f
theorem et_not (h : ET K tt Γ M fun M1 b1 => Φt M1 (!b1)) : ET K (tNot tt) Γ M Φt := fun X A σ H s Q k =>
  h X A σ H s _ fun A1 M1 b1 H1 t1 s1 f => k A1 M1 (!b1) H1 t1 s1 f
theorem eb_and (h : EB K tt Γ M b) (h2 : b = true → EB K tu Γ M c) : EB K (tAnd tt tu) Γ M (b && c) := et_and (et_eb h (by cases b with
  | true => exact h2 rfl
  | false => exact ⟨rfl, rfl⟩))
theorem eb_or (h : EB K tt Γ M b) (h2 : b = false → EB K tu Γ M c) : EB K (tOr tt tu) Γ M (b || c) := et_or (et_eb h (by cases b with
  | false => exact h2 rfl
  | true => exact ⟨rfl, rfl⟩))
theorem eb_not (h : EB K tt Γ M b) : EB K (tNot tt) Γ M (!b) := et_not (et_eb h ⟨rfl, rfl⟩)
theorem ev_andV (h : EV K ta Γ M fun M1 d => ∃ b, d = .v (.bl b) ∧ if b = true then EV K tb Γ M1 Φ else Φ M1 (.v (.bl false))) : EV K (tAndV ta tb) Γ M Φ := fun X A σ H s Q k =>
  h X A σ H s _ fun A1 M1 v1 d1 H1 t1 s1 r1 ⟨b, e, f⟩ => by
    subst e
    cases r1 with
    | v r =>
      cases r
      refine ⟨b, rfl, ?_⟩
      cases b with
      | true => exact f X A1 σ H1 s1 Q fun A2 M2 v2 d2 H2 t2 s2 r2 f2 => k A2 M2 v2 d2 H2 (t1.trans t2) s2 r2 f2
      | false => exact k A1 M1 _ _ H1 t1 s1 (.v (.bl false)) f
theorem ev_orV (h : EV K ta Γ M fun M1 d => ∃ b, d = .v (.bl b) ∧ if b = true then Φ M1 (.v (.bl true)) else EV K tb Γ M1 Φ) : EV K (tOrV ta tb) Γ M Φ := fun X A σ H s Q k =>
  h X A σ H s _ fun A1 M1 v1 d1 H1 t1 s1 r1 ⟨b, e, f⟩ => by
    subst e
    cases r1 with
    | v r =>
      cases r
      refine ⟨b, rfl, ?_⟩
      cases b with
      | false => exact f X A1 σ H1 s1 Q fun A2 M2 v2 d2 H2 t2 s2 r2 f2 => k A2 M2 v2 d2 H2 (t1.trans t2) s2 r2 f2
      | true => exact k A1 M1 _ _ H1 t1 s1 (.v (.bl true)) f
theorem ep_andV (h : EP K ta Γ M (.bl b)) (h2 : b = true → EP K tb Γ M (.bl c)) : EP K (tAndV ta tb) Γ M (.bl (b && c)) := ev_andV (ev_ep h ⟨b, rfl, by cases b with
  | true => exact h2 rfl
  | false => exact ⟨rfl, rfl⟩⟩)
theorem ep_orV (h : EP K ta Γ M (.bl b)) (h2 : b = false → EP K tb Γ M (.bl c)) : EP K (tOrV ta tb) Γ M (.bl (b || c)) := ev_orV (ev_ep h ⟨b, rfl, by cases b with
  | false => exact h2 rfl
  | true => exact ⟨rfl, rfl⟩⟩)
theorem ep_notV (h : EP K ta Γ M (.bl b)) : EP K (tNotV ta) Γ M (.bl (!b)) := fun X A σ H s Q k =>
  h X A σ H s _ fun A1 M1 v1 d1 H1 t1 s1 r1 ⟨e1, e2⟩ => by
    subst e1 e2
    cases r1 with
    | v r => cases r; exact ⟨b, rfl, k A1 _ _ _ H1 t1 s1 (.v (.bl (!b))) ⟨rfl, rfl⟩⟩
theorem ev_if (h : ET K tt Γ M fun M1 b => if b = true then EV K ta Γ M1 Φ else EV K tb Γ M1 Φ) : EV K (tIf tt ta tb) Γ M Φ := fun X A σ H s Q k =>
  h X A σ H s _ fun A1 M1 b H1 t1 s1 f => by
    cases b with
    | true => exact f X A1 σ H1 s1 Q fun A2 M2 v2 d2 H2 t2 s2 r2 f2 => k A2 M2 v2 d2 H2 (t1.trans t2) s2 r2 f2
    | false => exact f X A1 σ H1 s1 Q fun A2 M2 v2 d2 H2 t2 s2 r2 f2 => k A2 M2 v2 d2 H2 (t1.trans t2) s2 r2 f2
theorem ep_if (h : EB K tt Γ M b) (h1 : b = true → EP K ta Γ M p) (h2 : b = false → EP K tb Γ M q) : EP K (tIf tt ta tb) Γ M (if b = true then p else q) := ev_if (et_eb h (by cases b with
  | true => exact h1 rfl
  | false => exact h2 rfl))
/-- x is None -/
def isNon : P → Bool
  | .non => true
  | _ => false
theorem isNon_ok {X : Addr → Prop} {H : Hp} {v : V} (r : Rp K X H v p) : decide (v = .non) = isNon p := by
  cases r <;> rfl
theorem ep_isN (h : EF K ta Γ M p) : EP K (tIsN ta) Γ M (.bl (isNon p)) := fun X A σ H s Q k =>
  h X A σ H s _ fun A1 M1 v1 d1 H1 t1 s1 r1 ⟨e1, e2⟩ => by
    subst e1
    show Q (.bl (decide (v1 = .non))) H1
    rw [isNon_ok (s1.ce.fz e2 r1)]
    exact k A1 _ _ _ H1 t1 s1 (.v (.bl _)) ⟨rfl, rfl⟩
theorem ep_notN (h : EF K ta Γ M p) : EP K (tNotN ta) Γ M (.bl (!isNon p)) := fun X A σ H s Q k =>
  h X A σ H s _ fun A1 M1 v1 d1 H1 t1 s1 r1 ⟨e1, e2⟩ => by
    subst e1
    show Q (.bl (!decide (v1 = .non))) H1
    rw [isNon_ok (s1.ce.fz e2 r1)]
    exact k A1 _ _ _ H1 t1 s1 (.v (.bl _)) ⟨rfl, rfl⟩
end

/-! ### statements -/
section
variable {K : PySem.W.Frag} {n : Nat} {te ta tb : TE} {tt : TT} {t u : TS} {Γ Γ' : Env} {M M' : Mem} {E E' : DE} {p : P} {b : Bool}
theorem Rz.step {X : Addr → Prop} {A0 A : List Addr} {H0 H : Hp} {Dd : Ends} (z : Rz K X A0 H0 Dd E) (t : Tr A0 H0 A H) : Rz K X A H Dd E :=
  ⟨fun A1 M Γ σ H1 t1 => z.nx A1 M Γ σ H1 (t.trans t1), fun A1 M Γ σ H1 v d t1 => z.rt A1 M Γ σ H1 v d (t.trans t1), fun A1 M Γ σ H1 t1 => z.bk A1 M Γ σ H1 (t.trans t1), fun A1 M Γ σ H1 t1 => z.ct A1 M Γ σ H1 (t.trans t1)⟩
theorem SV.imp (h : SV K n t Γ M E) (nx : ∀ Γ M, E.nx Γ M → E'.nx Γ M) (rt : ∀ M d, E.rt M d → E'.rt M d) (bk : ∀ Γ M, E.bk Γ M → E'.bk Γ M) (ct : ∀ Γ M, E.ct Γ M → E'.ct Γ M) : SV K n t Γ M E' :=
  fun X A0 H0 l A σ H Dd tr s z => h X A0 H0 l A σ H Dd tr s ⟨fun A1 M1 Γ1 σ1 H1 t1 s1 e => z.nx A1 M1 Γ1 σ1 H1 t1 s1 (nx _ _ e), fun A1 M1 Γ1 σ1 H1 v d t1 s1 r e => z.rt A1 M1 Γ1 σ1 H1 v d t1 s1 r (rt _ _ e), fun A1 M1 Γ1 σ1 H1 t1 s1 e => z.bk A1 M1 Γ1 σ1 H1 t1 s1 (bk _ _ e), fun A1 M1 Γ1 σ1 H1 t1 s1 e => z.ct A1 M1 Γ1 σ1 H1 t1 s1 (ct _ _ e)⟩
theorem sv_seq (h : SV K n t Γ M { E with nx := fun Γ' M' => SV K n u Γ' M' E }) : SV K n (tSeq t u) Γ M E := fun X A0 H0 l A σ H Dd tr s z =>
  h X A0 H0 l A σ H { Dd with nx := u Dd } tr s ⟨fun A1 M1 Γ1 σ1 H1 t1 s1 e => e X A0 H0 l A1 σ1 H1 Dd t1 s1 z, z.rt, z.bk, z.ct⟩
theorem sv_next (h : E.nx Γ M) : SV K n tNext Γ M E := fun X A0 H0 l A σ H Dd tr s z => z.nx A M Γ σ H tr s h
theorem sv_break (h : E.bk Γ M) : SV K n tBreak Γ M E := fun X A0 H0 l A σ H Dd tr s z => z.bk A M Γ σ H tr s h
theorem sv_cont (h : E.ct Γ M) : SV K n tCont Γ M E := fun X A0 H0 l A σ H Dd tr s z => z.ct A M Γ σ H tr s h
theorem Sl.set {X : Addr → Prop} {A : List Addr} {σ : L2.St} {H : Hp} {v : V} {d : D} (s : Sl K X A Γ σ H) (i : Nat) (r : RD K X A H v d) : Sl K X A (Γ.set i (some d)) (σ.set i (some v)) H := by
  refine ⟨by rw [List.length_set, List.length_set]; exact s.len, fun j d' e => ?_⟩
  by_cases hij : i = j
  · subst hij
    have hl : i < Γ.length := by
      have := (List.getElem?_eq_some_iff.mp e).1
      rwa [List.length_set] at this
    rw [List.getElem?_set_self hl] at e
    cases e
    exact ⟨v, List.getElem?_set_self (by rw [s.len]; exact hl), r⟩
  · rw [List.getElem?_set_ne hij] at e ⊢
    exact s.at_ j d' e
theorem sv_asg {i : Nat} (h : EV K te Γ M fun M' d => E.nx (Γ.set i (some d)) M') : SV K n (tAsg te (gName i)) Γ M E := fun X A0 H0 l A σ H Dd tr s z =>
  h X A σ H s _ fun A1 M1 v d H1 t1 s1 r f => z.nx A1 M1 _ _ H1 (tr.trans t1) ⟨s1.ce, s1.sl.set i r⟩ f
theorem sv_set {i : Nat} (h : EP K te Γ M p) (f : E.nx (Γ.set i (some (.v p))) M) : SV K n (tAsg te (gName i)) Γ M E := sv_asg (ev_ep h f)
theorem sv_ret (h : EV K te Γ M fun M' d => E.rt M' d) : SV K n (tRet te) Γ M E := fun X A0 H0 l A σ H Dd tr s z =>
  h X A σ H s _ fun A1 M1 v d H1 t1 s1 r f => z.rt A1 M1 Γ σ H1 v d (tr.trans t1) s1 r f
theorem sv_retN (h : E.rt M (.v .non)) : SV K n tRetN Γ M E := fun X A0 H0 l A σ H Dd tr s z => z.rt A M Γ σ H .non (.v .non) tr s (.v .non) h
theorem sv_drop (h : EV K te Γ M fun M' d => E.nx Γ M') : SV K n (tDrop te) Γ M E := fun X A0 H0 l A σ H Dd tr s z =>
  h X A σ H s _ fun A1 M1 v d H1 t1 s1 r f => z.nx A1 M1 Γ σ H1 (tr.trans t1) s1 f
theorem sv_if (h : ET K tt Γ M fun M' b => if b = true then SV K n t Γ M' E else SV K n u Γ M' E) : SV K n (tIfS tt t u) Γ M E := fun X A0 H0 l A σ H Dd tr s z =>
  h X A σ H s _ fun A1 M1 b H1 t1 s1 f => by
    cases b with
    | true => exact f X A0 H0 l A1 σ H1 Dd (tr.trans t1) s1 z
    | false => exact f X A0 H0 l A1 σ H1 Dd (tr.trans t1) s1 z
theorem sv_ifB (h : EB K tt Γ M b) (h1 : b = true → SV K n t Γ M E) (h2 : b = false → SV K n u Γ M E) : SV K n (tIfS tt t u) Γ M E := sv_if (et_eb h (by cases b with
  | true => exact h1 rfl
  | false => exact h2 rfl))
/-- other slots and cells that say less, or say it otherwise -/
def Nrm (K : PySem.W.Frag) (n : Nat) (Γ : Env) (M : Mem) (Γ' : Env) (M' : Mem) : Prop :=
  ∀ (X : Addr → Prop) (A0 A : List Addr) (H0 H : Hp) (σ : L2.St), A0.length = n → Tr A0 H0 A H → St K X A M Γ σ H → ∃ A', Tr A0 H0 A' H ∧ St K X A' M' Γ' σ H
theorem Nrm.refl : Nrm K n Γ M Γ M := fun _ _ A _ _ _ _ t s => ⟨A, t, s⟩
theorem Nrm.trans {Γ2 : Env} {M2 : Mem} (a : Nrm K n Γ M Γ' M') (b : Nrm K n Γ' M' Γ2 M2) : Nrm K n Γ M Γ2 M2 := fun X A0 A H0 H σ l t s => by
  obtain ⟨A1, t1, s1⟩ := a X A0 A H0 H σ l t s
  exact b X A0 A1 H0 H σ l t1 s1
theorem sv_nrm (m : Nrm K n Γ M Γ' M') (h : SV K n t Γ' M' E) : SV K n t Γ M E := fun X A0 H0 l A σ H Dd tr s z => by
  obtain ⟨A1, t1, s1⟩ := m X A0 A H0 H σ l tr s
  exact h X A0 H0 l A1 σ H Dd t1 s1 z
/-- slots forgotten -/
theorem nrm_slots (hl : Γ'.length = Γ.length) (h : ∀ (i : Nat) (d : D), Γ'[i]? = some (some d) → Γ[i]? = some (some d)) : Nrm K n Γ M Γ' M := fun X A0 A H0 H σ l t s => ⟨A, t, s.ce, by rw [s.sl.len, hl], fun i d e => s.sl.at_ i d (h i d e)⟩
end
end Z
set_option maxRecDepth 100000
set_option maxHeartbeats 4000000
/-! The calculus: loops, comprehensions, cells. -/
namespace Z
open PySem PySem.Spec PyProof.Rows L2

/-- from (X, A, H) to (X', A', H'): what stood outside X and A stands, outside X' and A' -/
structure TrX (X : Addr → Prop) (A : List Addr) (H : Hp) (X' : Addr → Prop) (A' : List Addr) (H' : Hp) : Prop where
  keep : ∀ a o, H a = some o → ¬ XA X A a → H' a = some o
  new : ∀ a o, H a = some o → ¬ XA X A a → ¬ XA X' A' a
section
variable {K : PySem.W.Frag} {X X' : Addr → Prop} {A A' : List Addr} {H H' : Hp} {M M' : Mem} {Γ : Env} {σ : L2.St}
theorem TrX.rp (t : TrX X A H X' A' H') {v : V} {d : P} (h : Rp K (XA X A) H v d) : Rp K (XA X' A') H' v d := h.mono t.keep t.new
theorem TrX.rps (t : TrX X A H X' A' H') {v : List V} {d : List P} (h : Rps K (XA X A) H v d) : Rps K (XA X' A') H' v d := h.mono t.keep t.new
theorem Tr.x (t : Tr A H A' H') : TrX X A H X A' H' := by
  obtain ⟨B, e, f⟩ := t.ext
  refine ⟨fun a o q n => t.keep a o q fun z => n (.inr z), fun a o q n z => ?_⟩
  rcases z with z | z
  · exact n (.inl z)
  · rw [e] at z
    rcases List.mem_append.mp z with z | z
    · exact n (.inr z)
    · rw [f a z] at q
      cases q
/-- one more address that was free -/
abbrev X1 (X : Addr → Prop) (p : Addr) : Addr → Prop := fun a => X a ∨ a = p
theorem TrX.more {p : Addr} (t : TrX X A H X A' H') (hp : H p = none) : TrX X A H (X1 X p) A' H' := ⟨t.keep, fun a o q n z => by
  rcases z with (z | z) | z
  · exact t.new a o q n (.inl z)
  · rw [z, hp] at q
    cases q
  · exact t.new a o q n (.inr z)⟩
theorem Tr.updF {p : Addr} {o : HO} (t : Tr A H A' H') (hp : H p = none) : Tr A H A' (upd H' p o) := ⟨t.ext, fun a u e n => by
  rw [upd_ne (ne_of_none e hp)]
  exact t.keep a u e n, fun a u e => by
  rw [upd_ne (ne_of_none e hp)]
  exact t.stay a u e⟩
theorem RD.trx (t : TrX X A H X' A' H') (l : ∀ (k : Nat) (a : Addr), A[k]? = some a → A'[k]? = some a) {v : V} {d : D} (h : RD K X A H v d) : RD K X' A' H' v d := by
  cases h with
  | v r => exact .v (t.rp r)
  | c e => exact .c (l _ _ e)
theorem RDs.trx (t : TrX X A H X' A' H') (l : ∀ (k : Nat) (a : Addr), A[k]? = some a → A'[k]? = some a) : ∀ {v : List V} {d : List D}, RDs K X A H v d → RDs K X' A' H' v d
  | _, _, .nil => .nil
  | _, _, .cons h r => .cons (h.trx t l) (RDs.trx t l r)
theorem CellAt.trx (t : TrX X A H X' A' H') (l : ∀ (k : Nat) (a : Addr), A[k]? = some a → A'[k]? = some a) {a : Addr} {c : MC} (k : ∀ o, H a = some o → H' a = some o) (h : CellAt K X A H a c) : CellAt K X' A' H' a c := by
  cases c with
  | l ds => obtain ⟨xs, e, r⟩ := h; exact ⟨xs, k _ e, r.trx t l⟩
  | o C ks ds => obtain ⟨dx, vs, e, q, r⟩ := h; exact ⟨dx, vs, k _ e, q, r.trx t l⟩
/-- everything as it stands, another set to keep away from -/
theorem St.reX (s : St K X A M Γ σ H) (t : TrX X A H X' A H') (k : ∀ a ∈ A, ∀ o, H a = some o → H' a = some o) (xs : ∀ a, X' a → ∃ o, H' a = some o) (dj : ∀ a, X' a → a ∉ A) : St K X' A M Γ σ H' :=
  ⟨⟨s.ce.nd, s.ce.len, fun j a c e1 e2 => (s.ce.at_ j a c e1 e2).trx t (fun _ _ e => e) (k a (List.mem_of_getElem? e1)), xs, dj⟩, s.sl.len, fun i d e => by
    obtain ⟨v, e1, r⟩ := s.sl.at_ i d e
    exact ⟨v, e1, r.trx t fun _ _ e => e⟩⟩
/-- a new object, to be kept away from -/
theorem St.fresh {p : Addr} {o : HO} (s : St K X A M Γ σ H) (hp : H p = none) : St K (X1 X p) A M Γ σ (upd H p o) := by
  have sm := same_new (o := o) hp
  refine s.reX ⟨fun a u e _ => sm a u e, fun a u e n z => ?_⟩ (fun a _ u e => sm a u e) (fun a z => ?_) fun a z ha => ?_
  · rcases z with (z | z) | z
    · exact n (.inl z)
    · rw [z, hp] at e
      cases e
    · exact n (.inr z)
  · rcases z with z | z
    · obtain ⟨u, e⟩ := s.ce.xs a z
      exact ⟨u, sm a u e⟩
    · exact ⟨o, by rw [z]; exact upd_same⟩
  · rcases z with z | z
    · exact s.ce.dj a z ha
    · obtain ⟨u, e⟩ := s.ce.is ha
      rw [z, hp] at e
      cases e
/-- an object that is kept away from changes -/
theorem St.updX {p : Addr} {o : HO} (s : St K X A M Γ σ H) (hp : X p) : St K X A M Γ σ (upd H p o) := by
  refine s.reX ⟨fun a u e n => ?_, fun a u e n => n⟩ (fun a ha u e => ?_) (fun a z => ?_) s.ce.dj
  · rw [upd_ne (show a ≠ p from fun z => n (.inl (by rw [z]; exact hp)))]
    exact e
  · rw [upd_ne (show a ≠ p from fun z => s.ce.dj p hp (by rw [← z]; exact ha))]
    exact e
  · by_cases h : a = p
    · rw [h]
      exact ⟨o, upd_same⟩
    · rw [upd_ne h]
      exact s.ce.xs a z
theorem St.lessX (s : St K X' A M Γ σ H) (h : ∀ a, X a → X' a) : St K X A M Γ σ H :=
  s.reX ⟨fun a u e _ => e, fun a u e n z => n (z.elim (fun z => .inl (h a z)) .inr)⟩ (fun a _ u e => e) (fun a z => s.ce.xs a (h a z)) fun a z => s.ce.dj a (h a z)
/-- a cell's content changes -/
theorem St.put {a : Addr} {k : Nat} {o : HO} {c : MC} (s : St K X A M Γ σ H) (e : A[k]? = some a) (new : CellAt K X A (upd H a o) a c) : Tr A H A (upd H a o) ∧ St K X A (M.set k c) Γ σ (upd H a o) := by
  have ha := List.mem_of_getElem? e
  have t : Tr A H A (upd H a o) := ⟨⟨[], by simp, by simp⟩, fun b u q n => by
    rw [upd_ne (show b ≠ a from fun z => n (by rw [z]; exact ha))]
    exact q, fun b u q => by
    by_cases h : b = a
    · rw [h]
      exact ⟨o, upd_same⟩
    · rw [upd_ne h]
      exact ⟨u, q⟩⟩
  refine ⟨t, ⟨s.ce.nd, by rw [List.length_set]; exact s.ce.len, fun j b m e1 e2 => ?_, fun b z => ?_, s.ce.dj⟩, t.sl s.sl⟩
  · by_cases hj : k = j
    · subst hj
      rw [e] at e1
      cases e1
      have hl : k < M.length := by
        have := (List.getElem?_eq_some_iff.mp e2).1
        rwa [List.length_set] at this
      rw [List.getElem?_set_self hl] at e2
      cases e2
      exact new
    · rw [List.getElem?_set_ne hj] at e2
      have hb : b ≠ a := fun z => hj ((List.getElem?_inj (List.getElem?_eq_some_iff.mp e).1 s.ce.nd).mp (e.trans (by rw [← z]; exact e1.symm)))
      exact (s.ce.at_ j b m e1 e2).tr t fun u q => by
        rw [upd_ne hb]
        exact q
  · obtain ⟨u, q⟩ := s.ce.xs b z
    exact t.stay b u q
/-- a new object becomes a cell -/
theorem St.cell {p : Addr} {c : MC} (s : St K (X1 X p) A M Γ σ H) (hx : ¬ X p) (new : CellAt K (X1 X p) A H p c) : St K X (A ++ [p]) (M ++ [c]) Γ σ H := by
  have lk : ∀ (k : Nat) (a : Addr), A[k]? = some a → (A ++ [p])[k]? = some a := fun k a e => by
    rw [List.getElem?_append_left (List.getElem?_eq_some_iff.mp e).1]
    exact e
  have t : TrX (X1 X p) A H X (A ++ [p]) H := ⟨fun _ _ e _ => e, fun a o _ n z => by
    rcases z with z | z
    · exact n (.inl (.inl z))
    · rcases List.mem_append.mp z with z | z
      · exact n (.inr z)
      · exact n (.inl (.inr (List.mem_singleton.mp z)))⟩
  refine ⟨⟨?_, by rw [List.length_append, List.length_append, s.ce.len]; rfl, fun k a m e1 e2 => ?_, fun a z => s.ce.xs a (.inl z), fun a z ha' => ?_⟩, s.sl.len, fun i d e => ?_⟩
  · refine List.nodup_append.mpr ⟨s.ce.nd, List.nodup_cons.mpr ⟨by simp, List.nodup_nil⟩, fun a h1 b h2 => ?_⟩
    rw [List.mem_singleton.mp h2]
    exact fun z => s.ce.dj p (.inr rfl) (z ▸ h1)
  · by_cases hk : k < A.length
    · rw [List.getElem?_append_left hk] at e1
      rw [List.getElem?_append_left (by rw [← s.ce.len]; exact hk)] at e2
      exact (s.ce.at_ k a m e1 e2).trx t lk fun _ e => e
    · have hk2 : k = A.length := by
        have := (List.getElem?_eq_some_iff.mp e1).1
        rw [List.length_append, List.length_singleton] at this
        omega
      subst hk2
      rw [List.getElem?_append_right (Nat.le_refl _), Nat.sub_self] at e1
      rw [List.getElem?_append_right (by rw [s.ce.len]; exact Nat.le_refl _), s.ce.len, Nat.sub_self] at e2
      cases e1
      cases e2
      exact new.trx t lk fun _ e => e
  · rcases List.mem_append.mp ha' with h | h
    · exact s.ce.dj a (.inl z) h
    · rw [List.mem_singleton.mp h] at z
      exact hx z
  · obtain ⟨v, e1, r⟩ := s.sl.at_ i d e
    exact ⟨v, e1, r.trx t lk⟩
theorem Tr.cell {p : Addr} {A0 : List Addr} {H0 : Hp} (t : Tr A0 H0 A H) (hp : H0 p = none) : Tr A0 H0 (A ++ [p]) H := by
  obtain ⟨B, e, f⟩ := t.ext
  refine ⟨⟨B ++ [p], by rw [e, List.append_assoc], fun b hb => ?_⟩, t.keep, t.stay⟩
  rcases List.mem_append.mp hb with h | h
  · exact f b h
  · rw [List.mem_singleton.mp h]
    exact hp
theorem RDs.lessX {vs : List V} {ds : List D} (r : RDs K X' A H vs ds) (h : ∀ a, X a → X' a) : RDs K X A H vs ds :=
  r.trx ⟨fun _ _ e _ => e, fun a u e n z => n (z.elim (fun z => .inl (h a z)) .inr)⟩ fun _ _ e => e
end

/-! ### a list made new: a cell, or data -/
/-- a new list of ds: at p, which nothing else holds -/
def EN (K : PySem.W.Frag) (te : TE) (Γ : Env) (M : Mem) (Φ : Mem → List D → Prop) : Prop :=
  ∀ (X : Addr → Prop) (A : List Addr) (σ : L2.St) (H : Hp), St K X A M Γ σ H → ∀ Q : VK, (∀ A' M' p xs ds H', Tr A H A' H' → H p = none → St K (X1 X p) A' M' Γ σ H' → H' p = some (.lst xs) → RDs K (X1 X p) A' H' xs ds → Φ M' ds → Q (.ref p) H') → te σ H Q
section
variable {K : PySem.W.Frag} {te ta tb : TE} {tar : TA} {Γ : Env} {M : Mem} {Φ : Mem → D → Prop} {Φn Ψn : Mem → List D → Prop} {p : P} {ps : List P}
theorem EN.imp (h : EN K te Γ M Φn) (i : ∀ M' d, Φn M' d → Ψn M' d) : EN K te Γ M Ψn := fun X A σ H s Q q => h X A σ H s Q fun A' M' p xs ds H' t hp s' e r f => q A' M' p xs ds H' t hp s' e r (i _ _ f)
theorem ev_cell (h : EN K te Γ M fun M' ds => Φ (M' ++ [.l ds]) (.c M'.length)) : EV K te Γ M Φ := fun X A σ H s Q q =>
  h X A σ H s Q fun A' M' p xs ds H' t hp s' e r f => by
    have hx : ¬ X p := fun z => by
      obtain ⟨o, e⟩ := s.ce.xs p z
      rw [hp] at e
      cases e
    refine q (A' ++ [p]) _ _ _ H' (t.cell hp) (s'.cell hx (c := .l ds) ⟨xs, e, r⟩) (.c ?_) f
    rw [List.getElem?_append_right (by rw [s'.ce.len]; exact Nat.le_refl _), s'.ce.len, Nat.sub_self]
    rfl
theorem ev_new (h : EN K te Γ M fun M' ds => ∃ ps, ds = ps.map .v ∧ Φ M' (.v (.lst ps))) : EV K te Γ M Φ := fun X A σ H s Q q =>
  h X A σ H s Q fun A' M' p xs ds H' t hp s' e r ⟨ps, ed, f⟩ => by
    subst ed
    refine q A' M' _ _ H' t (s'.lessX fun _ z => .inl z) (.v (.lst e ?_ ?_)) f
    · rintro (z | z)
      · obtain ⟨o, e⟩ := s.ce.xs p z
        rw [hp] at e
        cases e
      · exact s'.ce.dj p (.inr rfl) z
    · exact (r.lessX fun _ z => .inl z).toRps
theorem en_lst (h : EA K tar Γ M fun M' ds => ds.length ≤ sizeLine ∧ Φn M' ds) : EN K (tLst tar) Γ M Φn := fun X A σ H s Q q =>
  h X A σ H s _ fun A' M' vs ds H' t s' r ⟨hl, f⟩ => by
    refine ⟨by rw [r.length]; exact hl, fun p hp => ?_⟩
    have hp0 : H p = none := by
      cases e : H p with
      | none => rfl
      | some o =>
        obtain ⟨u, q⟩ := t.stay p o e
        rw [hp] at q
        cases q
    have tx : TrX X A' H' (X1 X p) A' (upd H' p (.lst vs)) := (Tr.ofSame (same_new hp)).x.more hp
    exact q A' M' p vs ds _ (t.trans (.ofSame (same_new hp))) hp0 (s'.fresh hp) upd_same (r.trx tx fun _ _ e => e) f
end

/-! ### what a for walks -/
def Wk (K : PySem.W.Frag) (X : Addr → Prop) (A : List Addr) (H : Hp) (J : It) (items : List P) : Prop :=
  ∃ (G : Hp → Prop) (Y : Nat → Hp → V → Hp → Prop), Walk J items.length G Y ∧ ∀ X' A' H1, TrX X A H X' A' H1 → G H1 ∧ ((∀ a, XA X' A' a → ∃ o, H1 a = some o) →
    ∀ i x H2, i < items.length → Y i H1 x H2 → Same H1 H2 ∧ ∃ p, items[i]? = some p ∧ Rp K (XA X' A') H2 x p)
def EI (K : PySem.W.Frag) (wi : TI) (Γ : Env) (M : Mem) (Φ : Mem → List P → Prop) : Prop :=
  ∀ (X : Addr → Prop) (A : List Addr) (σ : L2.St) (H : Hp), St K X A M Γ σ H → ∀ R : It → Hp → Prop, (∀ A' M' items J H', Tr A H A' H' → St K X A' M' Γ σ H' → Wk K X A' H' J items → Φ M' items → R J H') → wi σ H R
def EIp (K : PySem.W.Frag) (wi : TI) (Γ : Env) (M : Mem) (items : List P) : Prop := EI K wi Γ M fun M' its => M' = M ∧ its = items
/-- a target -/
def GV (K : PySem.W.Frag) (g : TG) (p : P) (Γ : Env) (M : Mem) (Ψ : Env → Prop) : Prop :=
  ∀ (X : Addr → Prop) (A : List Addr) (σ : L2.St) (H : Hp) (v : V), St K X A M Γ σ H → Rp K (XA X A) H v p → ∀ Q : L2.St → Hp → Prop, (∀ Γ' σ', St K X A M Γ' σ' H → Ψ Γ' → Q σ' H) → g v σ H Q
def GVs (K : PySem.W.Frag) (g : TGs) (ps : List P) (Γ : Env) (M : Mem) (Ψ : Env → Prop) : Prop :=
  ∀ (X : Addr → Prop) (A : List Addr) (σ : L2.St) (H : Hp) (vs : List V), St K X A M Γ σ H → Rps K (XA X A) H vs ps → ∀ Q : L2.St → Hp → Prop, (∀ Γ' σ', St K X A M Γ' σ' H → Ψ Γ' → Q σ' H) → g vs σ H Q
section
variable {K : PySem.W.Frag} {Γ : Env} {M : Mem} {Ψ : Env → Prop} {p : P} {ps : List P} {g : TG} {gs : TGs} {Φ : Mem → List P → Prop}
theorem gv_name {i : Nat} (f : Ψ (Γ.set i (some (.v p)))) : GV K (gName i) p Γ M Ψ := fun X A σ H v s r Q q => q _ _ ⟨s.ce, s.sl.set i (.v r)⟩ f
theorem gvs_nil (f : Ψ Γ) : GVs K gNil [] Γ M Ψ := fun X A σ H vs s r Q q => by
  cases r
  exact ⟨rfl, q _ _ s f⟩
theorem gvs_cons (h : GV K g p Γ M fun Γ' => GVs K gs ps Γ' M Ψ) : GVs K (gCons g gs) (p :: ps) Γ M Ψ := fun X A σ H vs s r Q q => by
  cases r with
  | cons r1 r2 =>
    refine ⟨_, _, rfl, h X A σ H _ s r1 _ fun Γ' σ' s' f => ?_⟩
    exact f X A σ' H _ s' r2 Q q
theorem gv_tup {n : Nat} (hn : ps.length = n) (h : GVs K gs ps Γ M Ψ) : GV K (gTup K n gs) (.tup ps) Γ M Ψ := fun X A σ H v s r Q q => by
  obtain ⟨a, xs, e, hq, rs⟩ := r.tupOf
  subst e
  exact ⟨a, xs, rfl, hq, by rw [Rps.length rs]; exact hn, h X A σ H xs s rs Q q⟩
theorem TrX.sqT {X X' : Addr → Prop} {A A' : List Addr} {H H' : Hp} (t : TrX X A H X' A' H') {v : V} (r : Rp K (XA X A) H v (.tup ps)) : ∃ p xs, v = .ref p ∧ (∀ X' A' H', TrX X A H X' A' H' → SqT K H' p xs) ∧ Rps K (XA X A) H xs ps := by
  cases r with
  | tup h n r => exact ⟨_, _, rfl, fun X' A' H' t => .inl (Rd.keep h fun o e => t.keep _ o e n), r⟩
  | tupK h r => exact ⟨_, _, rfl, fun X' A' H' t => .inr h, r⟩
theorem sqT_of {X : Addr → Prop} {A : List Addr} {H : Hp} {v : V} (r : Rp K (XA X A) H v (.tup ps)) : ∃ p xs, v = .ref p ∧ (∀ X' A' H', TrX X A H X' A' H' → SqT K H' p xs) ∧ Rps K (XA X A) H xs ps := by
  cases r with
  | tup h n r => exact ⟨_, _, rfl, fun X' A' H' t => .inl (Rd.keep h fun o e => t.keep _ o e n), r⟩
  | tupK h r => exact ⟨_, _, rfl, fun X' A' H' t => .inr h, r⟩
theorem sqL_of {X : Addr → Prop} {A : List Addr} {H : Hp} {v : V} (r : Rp K (XA X A) H v (.lst ps)) : ∃ p xs, v = .ref p ∧ (∀ X' A' H', TrX X A H X' A' H' → SqL K H' p xs) ∧ Rps K (XA X A) H xs ps := by
  cases r with
  | lst h n r => exact ⟨_, _, rfl, fun X' A' H' t => .inl (.inl (t.keep _ _ h n)), r⟩
theorem TrX.refl {X : Addr → Prop} {A : List Addr} {H : Hp} : TrX X A H X A H := ⟨fun _ _ e _ => e, fun _ _ _ n => n⟩
theorem wk_list {X : Addr → Prop} {A : List Addr} {H : Hp} {a : Addr} {xs : List V} (h : ∀ X' A' H', TrX X A H X' A' H' → SqL K H' a xs) (r : Rps K (XA X A) H xs ps) : Wk K X A H (Itl K a) ps :=
  ⟨_, _, by rw [← Rps.length r]; exact walk_list, fun X' A' H1 t => ⟨h X' A' H1 t, fun hx i x H2 hi y => by
    obtain ⟨e, y⟩ := y
    subst e
    obtain ⟨d, e1, r1⟩ := Rps.getV r y
    exact ⟨fun _ _ e => e, d, e1, t.rp r1⟩⟩⟩
theorem wk_tup {X : Addr → Prop} {A : List Addr} {H : Hp} {a : Addr} {xs : List V} (h : ∀ X' A' H', TrX X A H X' A' H' → SqT K H' a xs) (r : Rps K (XA X A) H xs ps) : Wk K X A H (Itt K a) ps :=
  ⟨_, _, by rw [← Rps.length r]; exact walk_tup, fun X' A' H1 t => ⟨h X' A' H1 t, fun hx i x H2 hi y => by
    obtain ⟨e, y⟩ := y
    subst e
    obtain ⟨d, e1, r1⟩ := Rps.getV r y
    exact ⟨fun _ _ e => e, d, e1, t.rp r1⟩⟩⟩
theorem ei_list {tl : TE} (h : EV K tl Γ M fun M' d => ∃ ps, d = .v (.lst ps) ∧ Φ M' ps) : EI K (iList K tl) Γ M Φ := fun X A σ H s R q =>
  h X A σ H s _ fun A' M' v d H' t s' r ⟨ps, e, f⟩ => by
    subst e
    obtain ⟨a, xs, e, hq, rs⟩ := sqL_of r.toRp
    subst e
    exact ⟨a, rfl, ⟨xs, hq X A' H' .refl⟩, q A' M' ps _ H' t s' (wk_list hq rs) f⟩
theorem ei_tup {tl : TE} (h : EV K tl Γ M fun M' d => ∃ ps, d = .v (.tup ps) ∧ Φ M' ps) : EI K (iTup K tl) Γ M Φ := fun X A σ H s R q =>
  h X A σ H s _ fun A' M' v d H' t s' r ⟨ps, e, f⟩ => by
    subst e
    obtain ⟨a, xs, e, hq, rs⟩ := sqT_of r.toRp
    subst e
    exact ⟨a, rfl, ⟨xs, hq X A' H' .refl⟩, q A' M' ps _ H' t s' (wk_tup hq rs) f⟩
/-- lo, lo + 1, .. -/
def rangeP (lo : Int) (n : Nat) : List P := (List.range n).map fun i => .int (lo + (i : Nat))
theorem rangeP_get {lo : Int} {n i : Nat} (h : i < n) : (rangeP lo n)[i]? = some (.int (lo + (i : Nat))) := by
  unfold rangeP
  rw [List.getElem?_map, List.getElem?_range h]
  rfl
theorem rangeP_len {lo : Int} {n : Nat} : (rangeP lo n).length = n := by
  unfold rangeP
  rw [List.length_map, List.length_range]
theorem wk_range {X : Addr → Prop} {A : List Addr} {H : Hp} {lo : Int} {n : Nat} : Wk K X A H (Itr lo n) (rangeP lo n) :=
  ⟨_, _, by rw [rangeP_len]; exact walk_range, fun X' A' H1 t => ⟨trivial, fun hx i x H2 hi y => by
    obtain ⟨e, y⟩ := y
    subst e y
    rw [rangeP_len] at hi
    exact ⟨fun _ _ e => e, _, rangeP_get hi, .int _⟩⟩⟩
theorem ei_range1 {ta : TA} (h : EA K ta Γ M fun M' ds => ∃ j : Int, ds = [.v (.int j)] ∧ -(2 ^ 62) ≤ j ∧ j < 2 ^ 62 ∧ Φ M' (rangeP 0 j.toNat)) : EI K (iRng1 ta) Γ M Φ := fun X A σ H s R q =>
  h X A σ H s _ fun A' M' vs ds H' t s' r ⟨j, e, b1, b2, f⟩ => by
    subst e
    cases r with
    | cons r1 r2 =>
      cases r2
      cases r1 with
      | v r1 =>
        cases r1
        exact ⟨j, rfl, b1, b2, q A' M' _ _ H' t s' wk_range f⟩
theorem ei_range2 {ta : TA} (h : EA K ta Γ M fun M' ds => ∃ i j : Int, ds = [.v (.int i), .v (.int j)] ∧ (-(2 ^ 62) ≤ i ∧ i < 2 ^ 62 ∧ -(2 ^ 62) ≤ j ∧ j < 2 ^ 62) ∧ Φ M' (rangeP i (j - i).toNat)) : EI K (iRng2 ta) Γ M Φ := fun X A σ H s R q =>
  h X A σ H s _ fun A' M' vs ds H' t s' r ⟨i, j, e, b, f⟩ => by
    subst e
    cases r with
    | cons r1 r2 =>
      cases r2 with
      | cons r2 r3 =>
        cases r3
        cases r1 with
        | v r1 =>
          cases r2 with
          | v r2 =>
            cases r1
            cases r2
            exact ⟨i, j, rfl, b, q A' M' _ _ H' t s' wk_range f⟩
end

/-! ### for, while -/
/-- up to other words for slots and cells -/
def NI (K : PySem.W.Frag) (n : Nat) (I : Env → Mem → Prop) : Env → Mem → Prop := fun Γ M => ∃ Γ' M', Nrm K n Γ M Γ' M' ∧ I Γ' M'
section
variable {K : PySem.W.Frag} {n : Nat} {wi : TI} {g : TG} {tb : TS} {tt : TT} {Γ : Env} {M : Mem} {E : DE} {I : Env → Mem → Prop}
theorem ni_refl (h : I Γ M) : NI K n I Γ M := ⟨Γ, M, .refl, h⟩
theorem sv_for (hi : EI K wi Γ M fun M0 items => ∃ I : Nat → Env → Mem → Prop, I 0 Γ M0 ∧ (∀ i p Γ1 M1, items[i]? = some p → I i Γ1 M1 → GV K g p Γ1 M1 fun Γ2 =>
      SV K M0.length tb Γ2 M1 { nx := NI K M0.length (I (i + 1)), ct := NI K M0.length (I (i + 1)), bk := E.nx, rt := E.rt }) ∧ ∀ Γ1 M1, I items.length Γ1 M1 → E.nx Γ1 M1) : SV K n (tFor wi g tb) Γ M E := fun X A0 H0 l A σ H Dd tr s z =>
  hi X A σ H s _ fun A1 M1 items J H1 t1 s1 wk ⟨I, h0, turn, done⟩ => by
    obtain ⟨G, Y, w, hw⟩ := wk
    refine for_it w (fun i σ' H' => ∃ A' M' Γ', Tr A1 H1 A' H' ∧ St K X A' M' Γ' σ' H' ∧ I i Γ' M') ⟨A1, M1, Γ, .refl, s1, h0⟩ (fun i σ' H' _ ⟨A', M', Γ', t', s', _⟩ => (hw X A' H' t'.x).1) ?_ ?_
    · rintro i x σ' H' H2 hlt ⟨A', M', Γ', t', s', hI⟩ y
      obtain ⟨sm, p, ep, rp⟩ := (hw X A' H' t'.x).2 s'.ce.xa i x H2 hlt y
      have s2 := s'.same sm
      have t2 : Tr A1 H1 A' H2 := t'.trans (.ofSame sm)
      refine turn i p Γ' M' ep hI X A' σ' H2 x s2 rp _ fun Γ2 σ2 s3 sv => ?_
      refine sv X A1 H1 s1.ce.len A' σ2 H2 _ t2 s3 ⟨fun A3 M3 Γ3 σ3 H3 t3 s3 e => ?_, fun A3 M3 Γ3 σ3 H3 v d t3 s3 r e => z.rt A3 M3 Γ3 σ3 H3 v d ((tr.trans t1).trans t3) s3 r e, fun A3 M3 Γ3 σ3 H3 t3 s3 e => z.nx A3 M3 Γ3 σ3 H3 ((tr.trans t1).trans t3) s3 e, fun A3 M3 Γ3 σ3 H3 t3 s3 e => ?_⟩
      all_goals
        obtain ⟨Γ4, M4, nm, hI4⟩ := e
        obtain ⟨A4, t4, s4⟩ := nm X A1 A3 H1 H3 σ3 s1.ce.len t3 s3
        exact ⟨A4, M4, Γ4, t4, s4, hI4⟩
    · rintro σ' H' ⟨A', M', Γ', t', s', hI⟩
      exact z.nx A' M' Γ' σ' H' ((tr.trans t1).trans t') s' (done Γ' M' hI)
theorem sv_while (I : Nat → Env → Mem → Prop) (m0 : Nat) (h0 : I m0 Γ M) (turn : ∀ m Γ1 M1, I m Γ1 M1 → ET K tt Γ1 M1 fun M2 b => if b = true then
      SV K M.length tb Γ1 M2 { nx := NI K M.length fun Γ' M' => ∃ m', m' < m ∧ I m' Γ' M', ct := NI K M.length fun Γ' M' => ∃ m', m' < m ∧ I m' Γ' M', bk := E.nx, rt := E.rt } else E.nx Γ1 M2) : SV K n (tWhile tt tb) Γ M E := fun X A0 H0 l A σ H Dd tr s z => by
  refine ⟨fun m σ' H' => ∃ A' M' Γ', Tr A H A' H' ∧ St K X A' M' Γ' σ' H' ∧ I m Γ' M', ⟨m0, A, M, Γ, .refl, s, h0⟩, ?_⟩
  rintro m σ' H' ⟨A', M', Γ', t', s', hI⟩
  refine turn m Γ' M' hI X A' σ' H' s' _ fun A2 M2 b H2 t2 s2 f => ?_
  have t3 : Tr A H A2 H2 := t'.trans t2
  cases b with
  | false => exact z.nx A2 M2 Γ' σ' H2 (tr.trans t3) s2 f
  | true =>
    refine ⟨fun σ3 H3 => ∃ m', m' < m ∧ ∃ A' M' Γ', Tr A H A' H3 ∧ St K X A' M' Γ' σ3 H3 ∧ I m' Γ' M', fun σ3 H3 ⟨m', hm, q⟩ => ⟨m', hm, q⟩, ?_⟩
    refine f X A H s.ce.len A2 σ' H2 _ t3 s2 ⟨fun A3 M3 Γ3 σ3 H3 t3 s3 e => ?_, fun A3 M3 Γ3 σ3 H3 v d t3 s3 r e => z.rt A3 M3 Γ3 σ3 H3 v d (tr.trans t3) s3 r e, fun A3 M3 Γ3 σ3 H3 t3 s3 e => z.nx A3 M3 Γ3 σ3 H3 (tr.trans t3) s3 e, fun A3 M3 Γ3 σ3 H3 t3 s3 e => ?_⟩
    all_goals
      obtain ⟨Γ4, M4, nm, m', hm, hI4⟩ := e
      obtain ⟨A4, t4, s4⟩ := nm X A A3 H H3 σ3 s.ce.len t3 s3
      exact ⟨m', hm, A4, M4, Γ4, t4, s4, hI4⟩
end

/-! ### comprehensions -/
def wipeE (Γ : Env) : List Nat → Env
  | [] => Γ
  | v :: vs => (wipeE Γ vs).set v none
theorem wipeE_len (Γ : Env) : ∀ vs, (wipeE Γ vs).length = Γ.length
  | [] => rfl
  | v :: vs => by unfold wipeE; rw [List.length_set, wipeE_len Γ vs]
section
variable {K : PySem.W.Frag} {X : Addr → Prop} {A : List Addr} {H : Hp} {M : Mem} {Γ : Env} {σ : L2.St}
theorem Sl.wipe (s : Sl K X A Γ σ H) : ∀ vs : List Nat, Sl K X A (wipeE Γ vs) (wipe σ vs) H
  | [] => s
  | v :: vs => by
    have ih := Sl.wipe s vs
    refine ⟨by rw [wipeE_len, wipe_length]; exact s.len, fun i d e => ?_⟩
    unfold wipeE at e
    unfold L2.wipe
    by_cases hi : v = i
    · subst hi
      by_cases hl : v < (wipeE Γ vs).length
      · rw [List.getElem?_set_self hl] at e
        cases e
      · rw [List.getElem?_eq_none_iff.mpr (by rw [List.length_set]; omega)] at e
        cases e
    · rw [List.getElem?_set_ne hi] at e ⊢
      exact ih.at_ i d e
theorem wipe_set {σ : L2.St} {j : Nat} {x : Option V} : ∀ {vs : List Nat}, j ∈ vs → wipe (σ.set j x) vs = wipe σ vs
  | v :: vs, h => by
    unfold L2.wipe
    by_cases hv : j ∈ vs
    · rw [wipe_set hv]
    · have hj : j = v := by
        rcases List.mem_cons.mp h with h | h
        · exact h
        · exact absurd h hv
      subst hj
      have aux : ∀ (us : List Nat), j ∉ us → wipe (σ.set j x) us = (wipe σ us).set j x := by
        intro us
        induction us with
        | nil => intro _; rfl
        | cons u us ih =>
          intro hu
          unfold L2.wipe
          rw [ih (fun z => hu (List.mem_cons_of_mem _ z)), List.set_comm _ _ (fun z => hu (by rw [z]; exact List.mem_cons_self ..))]
      rw [aux vs hv, List.set_set]
theorem wipe_wipe {σ : L2.St} : ∀ {vs us : List Nat}, (∀ j ∈ us, j ∈ vs) → wipe (wipe σ us) vs = wipe σ vs
  | vs, [], _ => rfl
  | vs, u :: us, h => by
    show wipe ((wipe σ us).set u none) vs = wipe σ vs
    rw [wipe_set (h u (List.mem_cons_self ..)), wipe_wipe fun j hj => h j (List.mem_cons_of_mem _ hj)]
end
/-- a target that stores into these slots alone -/
structure Tgt (vs : List Nat) (g : TG) : Prop where
  mono : ∀ v σ H (Q Q' : L2.St → Hp → Prop), (∀ σ' H', Q σ' H' → Q' σ' H') → g v σ H Q → g v σ H Q'
  stay : ∀ v σ H Q, g v σ H Q → g v σ H fun σ' H' => wipe σ' vs = wipe σ vs ∧ Q σ' H'
structure Tgts (vs : List Nat) (g : TGs) : Prop where
  mono : ∀ v σ H (Q Q' : L2.St → Hp → Prop), (∀ σ' H', Q σ' H' → Q' σ' H') → g v σ H Q → g v σ H Q'
  stay : ∀ v σ H Q, g v σ H Q → g v σ H fun σ' H' => wipe σ' vs = wipe σ vs ∧ Q σ' H'
theorem tgt_name {vs : List Nat} {i : Nat} (h : i ∈ vs) : Tgt vs (gName i) := ⟨fun _ _ _ _ _ h q => h _ _ q, fun v σ H Q q => ⟨wipe_set h, q⟩⟩
theorem tgts_nil {vs : List Nat} : Tgts vs gNil := ⟨fun v σ H Q Q' h ⟨e, q⟩ => ⟨e, h _ _ q⟩, fun v σ H Q ⟨e, q⟩ => ⟨e, rfl, q⟩⟩
theorem tgts_cons {vs : List Nat} {g : TG} {gs : TGs} (h : Tgt vs g) (hs : Tgts vs gs) : Tgts vs (gCons g gs) := ⟨fun v σ H Q Q' h1 ⟨a, r, e, q⟩ => ⟨a, r, e, h.mono a σ H _ _ (fun σ' H' q => hs.mono r σ' H' _ _ h1 q) q⟩, fun v σ H Q ⟨a, r, e, q⟩ => by
  refine ⟨a, r, e, h.mono a σ H _ _ (fun σ' H' ⟨w, q'⟩ => ?_) (h.stay a σ H _ q)⟩
  have q2 := hs.stay r σ' H' _ q'
  rw [w] at q2
  exact q2⟩
theorem tgt_tup {K : PySem.W.Frag} {vs : List Nat} {n : Nat} {gs : TGs} (h : Tgts vs gs) : Tgt vs (gTup K n gs) := ⟨fun v σ H Q Q' h1 ⟨a, xs, e, hq, l, q⟩ => ⟨a, xs, e, hq, l, h.mono xs σ H _ _ h1 q⟩, fun v σ H Q ⟨a, xs, e, hq, l, q⟩ => ⟨a, xs, e, hq, l, h.stay xs σ H Q q⟩⟩
section
variable {K : PySem.W.Frag} {wi : TI} {g : TG} {tt : TT} {te : TE} {vs : List Nat} {Γ : Env} {M : Mem} {Φ : Mem → List D → Prop} {items : List P}
theorem en_lc (hT : Tgt vs g) (hi : EI K wi Γ M fun M0 items => ∃ I : Nat → Mem → List P → Prop, I 0 M0 [] ∧ (∀ i p M1 acc, items[i]? = some p → I i M1 acc → acc.length < 100000 ∧ GV K g p (wipeE Γ vs) M1 fun Γ2 =>
      ET K tt Γ2 M1 fun M2 b => if b = true then EV K te Γ2 M2 fun M3 d => ∃ q, d = .v q ∧ I (i + 1) M3 (acc ++ [q]) else I (i + 1) M2 acc) ∧ ∀ M1 acc, I items.length M1 acc → Φ M1 (acc.map .v)) : EN K (tLc wi g tt te vs) Γ M Φ := fun X A σ H s Q q =>
  hi X A σ H s _ fun A0 M0 items J H1 t1 s1 wk ⟨I, h0, turn, done⟩ Dp hD => by
    obtain ⟨G, Y, w, hw⟩ := wk
    have hx : ¬ X Dp := fun z => by
      obtain ⟨o, e⟩ := s1.ce.xs Dp z
      rw [hD] at e
      cases e
    refine lc_it w (fun i H2 => ∃ A2 M2 acc xs, Tr A0 H1 A2 H2 ∧ St K (X1 X Dp) A2 M2 Γ σ H2 ∧ H2 Dp = some (.lst xs) ∧ Rps K (XA (X1 X Dp) A2) H2 xs acc ∧ I i M2 acc)
      ⟨A0, M0, [], [], Tr.ofSame (same_new hD), s1.fresh hD, upd_same, .nil, h0⟩ (fun i H2 _ ⟨A2, M2, acc, xs, t2, s2, _⟩ => (hw (X1 X Dp) A2 H2 (t2.x.more hD)).1) ?_ ?_
    · rintro i x H2 H2' hlt ⟨A2, M2, acc, xs, t2, s2, e2, r2, hI⟩ y
      obtain ⟨sm, p, ep, rp⟩ := (hw (X1 X Dp) A2 H2 (t2.x.more hD)).2 s2.ce.xa i x H2' hlt y
      have s3 := s2.same sm
      have t3 : Tr A0 H1 A2 H2' := t2.trans (.ofSame sm)
      have e3 := sm _ _ e2
      have r3 := r2.same sm
      obtain ⟨hlen, gv⟩ := turn i p M2 acc ep hI
      refine hT.mono _ _ _ _ _ (fun σ2 H5 q5 => ?_) (hT.stay _ _ _ _ (gv (X1 X Dp) A2 (wipe σ vs) H2' x ⟨s3.ce, s3.sl.wipe vs⟩ rp (fun σ2 H5 => H5 = H2' ∧ ∃ Γ2, St K (X1 X Dp) A2 M2 Γ2 σ2 H2' ∧ ET K tt Γ2 M2 fun M2 b => if b = true then EV K te Γ2 M2 fun M3 d => ∃ q, d = .v q ∧ I (i + 1) M3 (acc ++ [q]) else I (i + 1) M2 acc) fun Γ2 σ2 s4 et => ⟨rfl, Γ2, s4, et⟩))
      obtain ⟨w2, e5, Γ2, s4, et⟩ := q5
      subst e5
      refine ⟨w2.trans (wipe_wipe fun _ h => h), ?_⟩
      refine et (X1 X Dp) A2 σ2 _ s4 _ fun A3 M3 b H3 t4 s5 f => ?_
      have dp3 : H3 Dp = some (.lst xs) := t4.keep Dp _ e3 (s3.ce.dj Dp (.inr rfl))
      cases b with
      | false => exact ⟨A3, M3, acc, xs, t3.trans t4, s3.tr t4 s5.ce, dp3, t4.x.rps r3, f⟩
      | true =>
        refine f (X1 X Dp) A3 σ2 H3 s5 _ fun A4 M4 y d H4 t5 s6 r6 ⟨q, ed, hI2⟩ => ?_
        subst ed
        have dp4 : H4 Dp = some (.lst xs) := t5.keep Dp _ dp3 (s5.ce.dj Dp (.inr rfl))
        have r7 := t5.x.rps (t4.x.rps r3)
        have s7 := (s3.tr t4 s5.ce).tr t5 s6.ce
        refine ⟨xs, dp4, by rw [Rps.length r3]; exact Nat.lt_of_lt_of_le hlen (by decide), A4, M4, acc ++ [q], xs ++ [y], ((t3.trans t4).trans t5).updF hD, s7.updX (.inr rfl), upd_same, ?_, hI2⟩
        have tx : TrX (X1 X Dp) A4 H4 (X1 X Dp) A4 (upd H4 Dp (.lst (xs ++ [y]))) := ⟨fun a u e n => by
          rw [upd_ne (show a ≠ Dp from fun z => n (.inl (.inr z)))]
          exact e, fun _ _ _ n => n⟩
        exact tx.rps (Rps.append r7 (.cons r6.toRp .nil))
    · rintro H2 ⟨A2, M2, acc, xs, t2, s2, e2, r2, hI⟩
      exact q A2 M2 Dp xs _ H2 (t1.trans t2) (by
        cases e : H Dp with
        | none => rfl
        | some o =>
          obtain ⟨u, q⟩ := t1.stay Dp o e
          rw [hD] at q
          cases q) s2 e2 (.ofRps r2) (done M2 acc hI)
end
end Z
set_option maxRecDepth 100000
set_option maxHeartbeats 4000000
/-! The calculus: comprehensions of data, cells read and written, promises of defs, operators. -/
namespace Z
open PySem PySem.Spec PyProof.Rows L2

/-! ### comprehensions of data -/
section
variable {K : PySem.W.Frag} {wi : TI} {g : TG} {tt : TT} {te : TE} {vs : List Nat} {Γ : Env} {M : Mem} {items : List P}
theorem take_filter_map {α β : Type} {l : List α} {i : Nat} {p : α} (f : α → Bool) (v : α → β) (h : l[i]? = some p) : ((l.take (i + 1)).filter f).map v = ((l.take i).filter f).map v ++ (if f p = true then [v p] else []) := by
  rw [List.take_add_one, h, List.filter_append, List.map_append]
  show _ ++ List.map v (List.filter f [p]) = _
  by_cases hf : f p = true
  · rw [List.filter_cons, if_pos hf, if_pos hf]
    rfl
  · rw [List.filter_cons, if_neg hf, if_neg hf]
    rfl
theorem en_lcm (hT : Tgt vs g) (hi : EIp K wi Γ M items) (hl : items.length ≤ 99999) (f : P → Bool) (v : P → P)
    (h : ∀ (i : Nat) (p : P), items[i]? = some p → GV K g p (wipeE Γ vs) M fun Γ2 => EB K tt Γ2 M (f p) ∧ (f p = true → EP K te Γ2 M (v p))) : EN K (tLc wi g tt te vs) Γ M fun M' ds => M' = M ∧ ds = ((items.filter f).map v).map .v := by
  refine en_lc hT (fun X A σ H s R q => hi X A σ H s R fun A' M' its J H' t s' wk ⟨e1, e2⟩ => q A' M' its J H' t s' wk ?_)
  subst e1 e2
  refine ⟨fun i M1 acc => M1 = M' ∧ acc = ((its.take i).filter f).map v, ⟨rfl, by simp⟩, fun i p M1 acc ep ⟨e1, e2⟩ => ⟨?_, ?_⟩, fun M1 acc ⟨e1, e2⟩ => ⟨e1, by rw [e2, List.take_length]⟩⟩
  · subst e2
    rw [List.length_map]
    have h1 := List.length_filter_le f (its.take i)
    rw [List.length_take] at h1
    omega
  · subst e1
    intro X A σ H v2 s r Q q
    refine h i p ep X A σ H v2 s r Q fun Γ' σ' s' ⟨hb, hv⟩ => q Γ' σ' s' (et_eb hb ?_)
    have e3 := take_filter_map f v ep
    by_cases hf : f p = true
    · rw [if_pos hf] at e3 ⊢
      exact ev_ep (hv hf) ⟨_, rfl, rfl, by rw [e3, e2]⟩
    · rw [if_neg hf] at e3 ⊢
      exact ⟨rfl, by rw [e3, e2, List.append_nil]⟩
theorem ep_lcm (hT : Tgt vs g) (hi : EIp K wi Γ M items) (hl : items.length ≤ 99999) (f : P → Bool) (v : P → P)
    (h : ∀ (i : Nat) (p : P), items[i]? = some p → GV K g p (wipeE Γ vs) M fun Γ2 => EB K tt Γ2 M (f p) ∧ (f p = true → EP K te Γ2 M (v p))) : EP K (tLc wi g tt te vs) Γ M (.lst ((items.filter f).map v)) :=
  ev_new ((en_lcm hT hi hl f v h).imp fun M' ds ⟨e1, e2⟩ => ⟨_, e2, e1, rfl⟩)
theorem eb_yes : EB K tYes Γ M true := fun X A σ H s Q q => q A M true H .refl s ⟨rfl, rfl⟩
theorem ep_lcy (hT : Tgt vs g) (hi : EIp K wi Γ M items) (hl : items.length ≤ 99999) (v : P → P)
    (h : ∀ (i : Nat) (p : P), items[i]? = some p → GV K g p (wipeE Γ vs) M fun Γ2 => EP K te Γ2 M (v p)) : EP K (tLc wi g tYes te vs) Γ M (.lst (items.map v)) := by
  have e := ep_lcm (tt := tYes) hT hi hl (fun _ => true) v fun i p ep X A σ H v2 s r Q q => h i p ep X A σ H v2 s r Q fun Γ' σ' s' hv => q Γ' σ' s' ⟨eb_yes, fun _ => hv⟩
  rwa [List.filter_eq_self.mpr (fun _ _ => rfl)] at e
theorem en_lcy (hT : Tgt vs g) (hi : EIp K wi Γ M items) (hl : items.length ≤ 99999) (v : P → P)
    (h : ∀ (i : Nat) (p : P), items[i]? = some p → GV K g p (wipeE Γ vs) M fun Γ2 => EP K te Γ2 M (v p)) : EN K (tLc wi g tYes te vs) Γ M fun M' ds => M' = M ∧ ds = (items.map v).map .v := by
  have e := en_lcm (tt := tYes) hT hi hl (fun _ => true) v fun i p ep X A σ H v2 s r Q q => h i p ep X A σ H v2 s r Q fun Γ' σ' s' hv => q Γ' σ' s' ⟨eb_yes, fun _ => hv⟩
  rwa [List.filter_eq_self.mpr (fun _ _ => rfl)] at e
end

/-! ### iterators, for pure sources -/
section
variable {K : PySem.W.Frag} {Γ : Env} {M : Mem} {Φ : Mem → List P → Prop} {ps : List P} {tl : TE} {ta tb : TA}
theorem ei_ip {wi : TI} (h : EIp K wi Γ M ps) (f : Φ M ps) : EI K wi Γ M Φ := fun X A σ H s R q => h X A σ H s R fun A' M' its J H' t s' wk ⟨e1, e2⟩ => by
  subst e1 e2
  exact q A' _ _ J H' t s' wk f
theorem eip_list (h : EP K tl Γ M (.lst ps)) : EIp K (iList K tl) Γ M ps := ei_list (ev_ep h ⟨ps, rfl, rfl, rfl⟩)
theorem eip_tup (h : EP K tl Γ M (.tup ps)) : EIp K (iTup K tl) Γ M ps := ei_tup (ev_ep h ⟨ps, rfl, rfl, rfl⟩)
theorem eip_range1 {j : Int} (h : EPs K ta Γ M [.int j]) (h1 : -1000000 ≤ j) (h2 : j < 1000000) : EIp K (iRng1 ta) Γ M (rangeP 0 j.toNat) := ei_range1 (ea_ep h ⟨j, rfl, by omega, by omega, rfl, rfl⟩)
theorem eip_range2 {i j : Int} (h : EPs K ta Γ M [.int i, .int j]) (h0 : -1000000 ≤ i ∧ i < 1000000) (h1 : -1000000 ≤ j) (h2 : j < 1000000) : EIp K (iRng2 ta) Γ M (rangeP i (j - i).toNat) := ei_range2 (ea_ep h ⟨i, j, rfl, ⟨by omega, by omega, by omega, by omega⟩, rfl, rfl⟩)
end

/-! ### cells -/
/-- a list's method: from ds by the arguments es to ds', giving d -/
def MV (K : PySem.W.Frag) (r : V → List V → Hp → VK → Prop) (ds es ds' : List D) (d : D) : Prop :=
  ∀ (X : Addr → Prop) (A : List Addr) (H : Hp) (l : Addr) (xs vs : List V), H l = some (.lst xs) → RDs K X A H xs ds → RDs K X A H vs es → ∀ Q : VK, (∀ v xs', RDs K X A H xs' ds' → RD K X A H v d → Q v (upd H l (.lst xs'))) → r (.ref l) vs H Q
section
variable {K : PySem.W.Frag} {n : Nat} {Γ : Env} {M : Mem} {Φ : Mem → D → Prop} {E : DE} {ta tb te : TE} {tar : TA} {p : P}
theorem St.cellL {X : Addr → Prop} {A : List Addr} {σ : L2.St} {H : Hp} {a : Addr} {k : Nat} {ds : List D} (s : St K X A M Γ σ H) (ek : A[k]? = some a) (em : M[k]? = some (.l ds)) : ∃ xs, H a = some (.lst xs) ∧ RDs K X A H xs ds := s.ce.at_ k a _ ek em
theorem ev_bm {r : V → List V → Hp → VK → Prop} (h : EV K ta Γ M fun M1 d => ∃ k ds1, d = .c k ∧ M1[k]? = some (.l ds1) ∧ EA K tar Γ M1 fun M2 es => ∃ ds ds' d, M2[k]? = some (.l ds) ∧ MV K r ds es ds' d ∧ Φ (M2.set k (.l ds')) d) :
    EV K (tBM K "list" r ta tar) Γ M Φ := fun X A σ H s Q q =>
  h X A σ H s _ fun A1 M1 v1 d1 H1 t1 s1 r1 ⟨k, ds1, e1, em1, h2⟩ => by
    subst e1
    cases r1 with
    | c ek =>
      rename_i a
      obtain ⟨xs1, hx1, _⟩ := s1.cellL ek em1
      refine ⟨.inl ⟨rfl, xs1, .inl (.inl hx1)⟩, h2 X A1 σ H1 s1 _ fun A2 M2 vs es H2 t2 s2 r2 ⟨ds, ds', d, em, mv, f⟩ => ?_⟩
      have ek2 : A2[k]? = some a := by
        obtain ⟨B, q, _⟩ := t2.ext
        rw [q, List.getElem?_append_left (List.getElem?_eq_some_iff.mp ek).1]
        exact ek
      obtain ⟨xs, hx, rx⟩ := s2.cellL ek2 em
      refine mv X A2 H2 a xs vs hx rx r2 Q fun v xs' rx' rv => ?_
      have tp : Tr A2 H2 A2 (upd H2 a (.lst xs')) := ⟨⟨[], by simp, by simp⟩, fun b u q n => by
        rw [upd_ne (show b ≠ a from fun z => n (by rw [z]; exact List.mem_of_getElem? ek2))]
        exact q, fun b u q => by
        by_cases h : b = a
        · rw [h]; exact ⟨_, upd_same⟩
        · rw [upd_ne h]; exact ⟨u, q⟩⟩
      obtain ⟨t3, s3⟩ := s2.put (c := .l ds') ek2 ⟨xs', upd_same, tp.rds rx'⟩
      exact q A2 _ v d _ ((t1.trans t2).trans t3) s3 (t3.rd rv) f
theorem ev_bm0 {r : V → List V → Hp → VK → Prop} (h : EV K ta Γ M fun M2 d => ∃ k ds ds' d', d = .c k ∧ M2[k]? = some (.l ds) ∧ MV K r ds [] ds' d' ∧ Φ (M2.set k (.l ds')) d') :
    EV K (tBM0 K "list" r ta) Γ M Φ := fun X A σ H s Q q =>
  h X A σ H s _ fun A2 M2 v1 d1 H2 t1 s2 r1 ⟨k, ds, ds', d, e1, em, mv, f⟩ => by
    subst e1
    cases r1 with
    | c ek2 =>
      rename_i a
      obtain ⟨xs, hx, rx⟩ := s2.cellL ek2 em
      refine ⟨.inl ⟨rfl, xs, .inl (.inl hx)⟩, mv X A2 H2 a xs [] hx rx .nil Q fun v xs' rx' rv => ?_⟩
      have tp : Tr A2 H2 A2 (upd H2 a (.lst xs')) := ⟨⟨[], by simp, by simp⟩, fun b u q n => by
        rw [upd_ne (show b ≠ a from fun z => n (by rw [z]; exact List.mem_of_getElem? ek2))]
        exact q, fun b u q => by
        by_cases h : b = a
        · rw [h]; exact ⟨_, upd_same⟩
        · rw [upd_ne h]; exact ⟨u, q⟩⟩
      obtain ⟨t3, s3⟩ := s2.put (c := .l ds') ek2 ⟨xs', upd_same, tp.rds rx'⟩
      exact q A2 _ v d _ (t1.trans t3) s3 (t3.rd rv) f
theorem mv_append {ds : List D} {e : D} (hl : ds.length < 100000) : MV K rAppend ds [e] (ds ++ [e]) (.v .non) := fun X A H l xs vs hx rx rv Q q => by
  cases rv with
  | cons r1 r2 =>
    cases r2
    exact ⟨l, xs, _, rfl, rfl, hx, by rw [rx.length]; exact Nat.lt_of_lt_of_le hl (by decide), q _ _ (rx.append (.cons r1 .nil)) (.v .non)⟩
theorem mv_popAt {ds : List D} {i : Nat} {e : D} (he : ds[i]? = some e) (hs : ds.length < 100000) : MV K rPopAt ds [.v (.int (i : Int))] (ds.eraseIdx i) e := fun X A H l xs vs hx rx rv Q q => by
  cases rv with
  | cons r1 r2 =>
    cases r2
    cases r1 with
    | v r1 =>
      cases r1
      obtain ⟨y, ey, ry⟩ := rx.get he
      have hi : i < xs.length := (List.getElem?_eq_some_iff.mp ey).1
      have hl : xs.length < 100000 := by rw [rx.length]; exact hs
      refine ⟨l, xs, (i : Int), i, y, rfl, rfl, hx, by omega, by omega, ?_, ey, q _ _ (rx.erase i) ry⟩
      have h := (ixN_seq (n := xs.length) (i := (i : Int)) (j := i) (by unfold ixN; rw [if_pos (by omega), if_pos (by omega)]; simp)).1
      exact h
theorem mv_insert {ds : List D} {i : Nat} {e : D} (hi : i < 100000) (hl : ds.length < 100000) : MV K (fun x vs H Q => ∃ (l : Addr) (xs : List V) (i : Int) (y : V), x = .ref l ∧ vs = [.int i, y] ∧ H l = some (.lst xs) ∧ xs.length < sizeLine ∧ 0 ≤ i ∧ i < 2 ^ 63 ∧ Q .non (upd H l (.lst (xs.take i.toNat ++ [y] ++ xs.drop i.toNat)))) ds [.v (.int (i : Int)), e] (ds.take i ++ e :: ds.drop i) (.v .non) := fun X A H l xs vs hx rx rv Q q => by
  cases rv with
  | cons r1 r2 =>
    cases r2 with
    | cons r2 r3 =>
      cases r3
      cases r1 with
      | v r1 =>
        cases r1
        refine ⟨l, xs, (i : Int), _, rfl, rfl, hx, by rw [rx.length]; exact Nat.lt_of_lt_of_le hl (by decide), by omega, by omega, ?_⟩
        rw [Int.toNat_natCast, List.append_assoc]
        exact q _ _ (rx.insert r2 i) (.v .non)
theorem mv_extend {ds : List D} {ps : List P} (hl : ds.length + ps.length ≤ 100000) : MV K rExtend ds [.v (.lst ps)] (ds ++ ps.map .v) (.v .non) := fun X A H l xs vs hx rx rv Q q => by
  cases rv with
  | cons r1 r2 =>
    cases r2
    obtain ⟨b, zs, e, hb, nb, rz⟩ := r1.toRp.lstOf
    subst e
    refine ⟨l, b, xs, zs, rfl, rfl, hx, hb, by rw [rx.length, Rps.length rz]; exact Nat.le_trans hl (by decide), q _ _ (rx.append (.ofRps rz)) (.v .non)⟩
theorem dropLast_erase {α : Type} (xs : List α) : xs.dropLast = xs.eraseIdx (xs.length - 1) := by
  rw [List.dropLast_eq_take, List.eraseIdx_eq_take_drop_succ]
  by_cases h0 : xs = []
  · subst h0
    rfl
  · have h1 : xs.length ≠ 0 := fun z => h0 (List.length_eq_zero_iff.mp z)
    rw [show xs.length - 1 + 1 = xs.length by omega, List.drop_length, List.append_nil]
/-- .. by a cell's items -/
theorem mv_pop {ds : List D} {e : D} (he : ds[ds.length - 1]? = some e) : MV K rPop ds [] ds.dropLast e := fun X A H l xs vs hx rx rv Q q => by
  cases rv
  obtain ⟨y, ey, ry⟩ := rx.get he
  refine ⟨l, xs, y, rfl, rfl, hx, by rw [rx.length]; exact ey, q _ _ ?_ ry⟩
  have h := dropLast_erase xs
  have h2 := dropLast_erase ds
  rw [h, h2, rx.length]
  exact rx.erase _
/-- items by place -/
theorem atI_len {α β : Type} {xs : List α} {ys : List β} {i : Int} {y : β} (hl : xs.length = ys.length) (h : atI ys i = some y) : ∃ j : Nat, ixN ys.length i = some j ∧ ys[j]? = some y ∧ ∀ x, xs[j]? = some x → atI xs i = some x := by
  unfold atI at h ⊢
  cases e : ixN ys.length i with
  | none => rw [e] at h; cases h
  | some j =>
    rw [e] at h
    refine ⟨j, rfl, h, fun x hx => ?_⟩
    rw [hl, e]
    exact hx
theorem ev_ixC {ix : R2} (hix : ix = rIx K ∨ ix = rIxL K) (h : EV K ta Γ M fun M1 d => ∃ k, d = .c k ∧ EV K tb Γ M1 fun M2 e => ∃ i ds d, e = .v (.int i) ∧ M2[k]? = some (.l ds) ∧ atI ds i = some d ∧ Φ M2 d) : EV K (tOp ix ta tb) Γ M Φ := fun X A σ H s Q q =>
  h X A σ H s _ fun A1 M1 v1 d1 H1 t1 s1 r1 ⟨k, e1, h2⟩ => by
    subst e1
    cases r1 with
    | c ek =>
      rename_i a
      refine h2 X A1 σ H1 s1 _ fun A2 M2 v2 d2 H2 t2 s2 r2 ⟨i, ds, d, e2, em, hi, f⟩ => ?_
      subst e2
      have ek2 : A2[k]? = some a := by
        obtain ⟨B, q, _⟩ := t2.ext
        rw [q, List.getElem?_append_left (List.getElem?_eq_some_iff.mp ek).1]
        exact ek
      obtain ⟨xs, hx, rx⟩ := s2.cellL ek2 em
      obtain ⟨j, _, ej, hj⟩ := atI_len rx.length hi
      obtain ⟨y, ey, ry⟩ := rx.get ej
      have fin : rIxL K (.ref a) v2 H2 Q := by
        cases r2 with
        | v r2 =>
          cases r2
          exact ⟨a, xs, i, y, rfl, rfl, .inl (.inl hx), hj y ey, q A2 M2 y d H2 (t1.trans t2) s2 ry f⟩
      rcases hix with h | h
      · subst h; exact .inl fin
      · subst h; exact fin
/-- xs[i] = e -/
theorem sv_setitem (h : EV K te Γ M fun M1 e => EV K ta Γ M1 fun M2 d => ∃ k, d = .c k ∧ EV K tb Γ M2 fun M3 i => ∃ (j : Int) (m : Nat) (ds : List D), i = .v (.int j) ∧ M3[k]? = some (.l ds) ∧ ixN ds.length j = some m ∧ E.nx Γ (M3.set k (.l (ds.set m e)))) : SV K n (tAsg te (gSub ta tb rSetL)) Γ M E := fun X A0 H0 l A σ H Dd tr s z =>
  h X A σ H s _ fun A1 M1 v1 d1 H1 t1 s1 r1 h2 => h2 X A1 σ H1 s1 _ fun A2 M2 v2 d2 H2 t2 s2 r2 ⟨k, e2, h3⟩ => by
    subst e2
    cases r2 with
    | c ek =>
      rename_i a
      refine h3 X A2 σ H2 s2 _ fun A3 M3 v3 d3 H3 t3 s3 r3 ⟨j, m, ds, e3, em, hm, f⟩ => ?_
      subst e3
      have ek3 : A3[k]? = some a := by
        obtain ⟨B, q, _⟩ := t3.ext
        rw [q, List.getElem?_append_left (List.getElem?_eq_some_iff.mp ek).1]
        exact ek
      obtain ⟨xs, hx, rx⟩ := s3.cellL ek3 em
      cases r3 with
      | v r3 =>
        cases r3
        have rv := t3.rd (t2.rd r1)
        have tp : Tr A3 H3 A3 (upd H3 a (.lst (xs.set m v1))) := ⟨⟨[], by simp, by simp⟩, fun b u q n => by
          rw [upd_ne (show b ≠ a from fun z => n (by rw [z]; exact List.mem_of_getElem? ek3))]
          exact q, fun b u q => by
          by_cases h : b = a
          · rw [h]; exact ⟨_, upd_same⟩
          · rw [upd_ne h]; exact ⟨u, q⟩⟩
        obtain ⟨t4, s4⟩ := s3.put (c := .l (ds.set m d1)) ek3 ⟨xs.set m v1, upd_same, tp.rds (rx.set rv m)⟩
        exact ⟨a, xs, j, m, rfl, rfl, hx, by rw [rx.length]; exact hm, z.nx A3 _ Γ σ _ ((((tr.trans t1).trans t2).trans t3).trans t4) s4 f⟩
theorem sv_par {i j : Nat} {ta : TA} (h : EA K ta Γ M fun M' ds => ∃ d e, ds = [d, e] ∧ E.nx ((Γ.set i (some d)).set j (some e)) M') : SV K n (tPar i j ta) Γ M E := fun X A0 H0 l A σ H Dd tr s z =>
  h X A σ H s _ fun A1 M1 vs ds H1 t1 s1 r ⟨d, e, ed, f⟩ => by
    subst ed
    cases r with
    | cons r1 r2 =>
      cases r2 with
      | cons r2 r3 =>
        cases r3
        exact ⟨_, _, rfl, z.nx A1 M1 _ _ H1 (tr.trans t1) ⟨s1.ce, (s1.sl.set i r1).set j r2⟩ f⟩
/-- target = e, e data -/
theorem sv_asgG {g : TG} (h : EV K te Γ M fun M' d => ∃ p, d = .v p ∧ GV K g p Γ M' fun Γ' => E.nx Γ' M') : SV K n (tAsg te g) Γ M E := fun X A0 H0 l A σ H Dd tr s z =>
  h X A σ H s _ fun A1 M1 v d H1 t1 s1 r ⟨p, e, gv⟩ => by
    subst e
    exact gv X A1 σ H1 v s1 r.toRp _ fun Γ' σ' s' f => z.nx A1 M1 Γ' σ' H1 (tr.trans t1) s' f
theorem sv_aug {i : Nat} {ti : TIp} {p q z : P} (e : Γ[i]? = some (some (.v p))) (h : EP K te Γ M q) (hr : RV K ti p q z) (f : E.nx (Γ.set i (some (.v z))) M) : SV K n (tAug i te ti) Γ M E := fun X A0 H0 l A σ H Dd tr s zz => by
  obtain ⟨v, e1, r⟩ := s.sl.at_ i _ e
  refine ⟨v, e1, h X A σ H s _ fun A1 M1 y d H1 t1 s1 r1 ⟨e1, e2⟩ => ?_⟩
  subst e1 e2
  exact hr (XA X A1) H1 v y s1.ce.xa (t1.rp r.toRp) r1.toRp _ fun w H' sm rz => zz.nx A1 _ _ _ H' ((tr.trans t1).trans (.ofSame sm)) ⟨(s1.same sm).ce, (s1.same sm).sl.set i (.v rz)⟩ f
end

/-! ### what a def promises -/
/-- data in, data out: every object stands -/
def PF (K : PySem.W.Frag) {α : Type} (args : α → List P) (pre : α → Prop) (res : α → P → Prop) : Sp := fun vs H Q _ =>
  ∃ (X : Addr → Prop) (x : α), (∀ a, X a → ∃ o, H a = some o) ∧ Rps K X H vs (args x) ∧ pre x ∧ ∀ v p H', Same H H' → Rp K X H' v p → res x p → Q v H'
/-- the drawing box -/
def Bx (n : Nat) (c : MC) : Prop := ∃ (a : Int) (g : Bool) (m d : Int), c = .l [.v (.int a), .v (.bl g), .v (.int m), .v (.int d)] ∧ 0 ≤ a ∧ 0 ≤ m ∧ m < 2147483648 ∧ 0 ≤ d ∧ d ≤ (n : Int)
/-- a box, then data; cost: draws made at most -/
def BF (K : PySem.W.Frag) {α : Type} (args : α → List P) (pre : α → Prop) (cost : α → Nat) (res : α → P → Prop) : Sp := fun vs H Q _ =>
  ∃ (X : Addr → Prop) (b : Addr) (c : MC) (n : Nat) (vs' : List V) (x : α), vs = .ref b :: vs' ∧ Cells K X [b] [c] H ∧ Bx n c ∧ n + cost x ≤ 1000000000 ∧ Rps K (XA X [b]) H vs' (args x) ∧ pre x ∧
    ∀ v p c' H', Tr [b] H [b] H' → Cells K X [b] [c'] H' → Rp K (XA X [b]) H' v p → Bx (n + cost x) c' → res x p → Q v H'
def perm {α : Type} (ix : List Nat) (l : List α) : List α := ix.filterMap fun i => l[i]?
theorem Rps.perm {K : PySem.W.Frag} {X : Addr → Prop} {H : Hp} {vs : List V} {ps : List P} (r : Rps K X H vs ps) : ∀ ix : List Nat, Rps K X H (Z.perm ix vs) (Z.perm ix ps)
  | [] => .nil
  | i :: ix => by
    have ih := Rps.perm r ix
    unfold Z.perm at ih ⊢
    cases e : ps[i]? with
    | none =>
      have e2 : vs[i]? = none := List.getElem?_eq_none_iff.mpr (by rw [Rps.length r]; exact List.getElem?_eq_none_iff.mp e)
      rw [List.filterMap_cons, List.filterMap_cons, e, e2]
      exact ih
    | some p =>
      obtain ⟨v, e2, rv⟩ := Rps.get r e
      rw [List.filterMap_cons, List.filterMap_cons, e, e2]
      exact .cons rv ih
theorem Vals.perm {vs : List V} {us : List Value} (r : Vals vs us) : ∀ ix : List Nat, Vals (Z.perm ix vs) (Z.perm ix us)
  | [] => .nil
  | i :: ix => by
    have ih := Vals.perm r ix
    unfold Z.perm at ih ⊢
    cases e : vs[i]? with
    | none =>
      rw [List.filterMap_cons, List.filterMap_cons, e, r.none_of e]
      exact ih
    | some p =>
      obtain ⟨v, e2, rv⟩ := r.get e
      rw [List.filterMap_cons, List.filterMap_cons, e, e2]
      exact .cons rv ih
section
variable {K : PySem.W.Frag} {α : Type} {args : α → List P} {pre : α → Prop} {cost : α → Nat} {res : α → P → Prop} {Γ : Env} {M : Mem} {Φ : Mem → D → Prop} {t tk : TA} {E : XK} {ps qs : List P} {z : P}
theorem ev_call (h : EA K t Γ M fun M1 ds => ∃ x, ds = (args x).map .v ∧ pre x ∧ ∀ p, res x p → Φ M1 (.v p)) : EV K (tCall (PF K args pre res) [] E t) Γ M Φ := fun X A σ H s Q q =>
  h X A σ H s _ fun A1 M1 vs ds H1 t1 s1 r ⟨x, ed, hp, f⟩ => by
    subst ed
    refine ⟨XA X A1, x, s1.ce.xa, by rw [List.append_nil]; exact r.toRps, hp, fun v p H' sm rp hr => ?_⟩
    exact q A1 M1 v (.v p) H' (t1.trans (.ofSame sm)) (s1.same sm) (.v rp) (f p hr)
theorem ep_call (h : EPs K t Γ M ps) (x : α) (ex : ps = args x) (hp : pre x) (hr : ∀ p, res x p → p = z) : EP K (tCall (PF K args pre res) [] E t) Γ M z :=
  ev_call (ea_ep h ⟨x, by rw [ex], hp, fun p q => ⟨rfl, by rw [hr p q]⟩⟩)
/-- cells as arguments, an answer without objects -/
theorem ef_call (h : EFs K t Γ M ps) (x : α) (ex : ps = args x) (hp : pre x) (hr : ∀ p, res x p → p = z) (hf : flat z = true) : EP K (tCall (PF K args pre res) [] E t) Γ M z := fun X A σ H s Q q =>
  h X A σ H s _ fun A1 M1 vs ds H1 t1 s1 r ⟨e1, e2⟩ => by
    subst e1
    refine ⟨X, x, s1.ce.xs, by rw [List.append_nil, ← ex]; exact s1.ce.fzs e2 r, hp, fun v p H' sm rp hr' => ?_⟩
    rw [hr p hr'] at rp
    exact q A1 _ v (.v z) H' (t1.trans (.ofSame sm)) (s1.same sm) (.v (flat_rp hf rp)) ⟨rfl, rfl⟩
theorem ep_callN {n m : Nat} {ix : List Nat} (h : EPs K t Γ M ps) (hk : EPs K tk Γ M qs) (l1 : ps.length = n) (l2 : qs.length = m) (x : α) (ex : perm ix (ps ++ qs) = args x) (hp : pre x) (hr : ∀ p, res x p → p = z) :
    EP K (tCallN n m (PF K args pre res) (fun vs zs => perm ix (vs ++ zs)) E t tk) Γ M z := fun X A σ H s Q q =>
  h X A σ H s _ fun A1 M1 vs ds H1 t1 s1 r ⟨e1, e2⟩ => by
    subst e1 e2
    refine hk X A1 σ H1 s1 _ fun A2 M2 zs es H2 t2 s2 r2 ⟨e1, e2⟩ => ?_
    subst e1 e2
    have r3 := (t2.rds r).toRps
    have r4 := r2.toRps
    refine ⟨by rw [Rps.length r3, l1], by rw [Rps.length r4, l2], XA X A2, x, s2.ce.xa, ?_, hp, fun v p H' sm rp hr' => ?_⟩
    · rw [← ex]
      exact (Rps.append r3 r4).perm ix
    · rw [hr p hr'] at rp
      exact q A2 _ v (.v z) H' ((t1.trans t2).trans (.ofSame sm)) (s2.same sm) (.v rp) ⟨rfl, rfl⟩
/-- the box handed on -/
theorem ev_callB (h : EA K t Γ M fun M1 ds => ∃ k c n x, ds = .c k :: (args x).map .v ∧ M1[k]? = some c ∧ Bx n c ∧ n + cost x ≤ 1000000000 ∧ pre x ∧ ∀ p c', res x p → Bx (n + cost x) c' → Φ (M1.set k c') (.v p)) : EV K (tCall (BF K args pre cost res) [] E t) Γ M Φ := fun X A σ H s Q q =>
  h X A σ H s _ fun A1 M1 vs ds H1 t1 s1 r ⟨k, c, n, x, ed, em, hb, hn, hp, f⟩ => by
    subst ed
    cases r with
    | cons r1 r2 =>
      cases r1 with
      | c ek =>
        rename_i vs' b
        have hbA : b ∈ A1 := List.mem_of_getElem? ek
        obtain ⟨a0, g0, m0, d0, ec, _⟩ := id hb
        -- the callee keeps away from X and the other cells
        have xe : ∀ a, XA (fun a => XA X A1 a ∧ a ≠ b) [b] a ↔ XA X A1 a := fun a => by
          constructor
          · rintro (⟨z, _⟩ | z)
            · exact z
            · rw [List.mem_singleton.mp z]
              exact .inr hbA
          · intro z
            by_cases h : a = b
            · exact .inr (List.mem_singleton.mpr h)
            · exact .inl ⟨z, h⟩
        have cb : Cells K (fun a => XA X A1 a ∧ a ≠ b) [b] [c] H1 := by
          refine ⟨List.nodup_cons.mpr ⟨by simp, List.nodup_nil⟩, rfl, fun j a m e1 e2 => ?_, fun a z => s1.ce.xa a z.1, fun a z h => z.2 (List.mem_singleton.mp h)⟩
          have hj : j = 0 := by
            have := (List.getElem?_eq_some_iff.mp e1).1
            rw [List.length_singleton] at this
            omega
          subst hj
          cases e1
          cases e2
          subst ec
          obtain ⟨xs, hx, rx⟩ := s1.ce.at_ k b _ ek em
          refine ⟨xs, hx, ?_⟩
          cases rx with
          | cons q1 rx => cases rx with
            | cons q2 rx => cases rx with
              | cons q3 rx => cases rx with
                | cons q4 rx =>
                  cases rx
                  exact .cons (.v (flat_rp rfl q1.toRp)) (.cons (.v (flat_rp rfl q2.toRp)) (.cons (.v (flat_rp rfl q3.toRp)) (.cons (.v (flat_rp rfl q4.toRp)) .nil)))
        refine ⟨fun a => XA X A1 a ∧ a ≠ b, b, c, n, vs', x, by rw [List.append_nil], cb, hb, hn, r2.toRps.less fun a z => (xe a).mp z, hp, fun v p c' H' tr cb' rp hb' hr => ?_⟩
        obtain ⟨a1, g1, m1, d1, ec', _⟩ := id hb'
        have rp2 : Rp K (XA X A1) H' v p := rp.less fun a z => (xe a).mpr z
        have t2 : Tr A1 H1 A1 H' := ⟨⟨[], by simp, by simp⟩, fun a o e nn => tr.keep a o e fun z => nn (by rw [List.mem_singleton.mp z]; exact hbA), tr.stay⟩
        have cc : Cells K X A1 (M1.set k c') H' := by
          refine ⟨s1.ce.nd, by rw [List.length_set]; exact s1.ce.len, fun j a m e1 e2 => ?_, fun a z => by
            obtain ⟨o, e⟩ := s1.ce.xs a z
            exact tr.stay a o e, s1.ce.dj⟩
          by_cases hj : k = j
          · subst hj
            have hl : k < M1.length := (List.getElem?_eq_some_iff.mp em).1
            rw [List.getElem?_set_self hl] at e2
            rw [ek] at e1
            cases e1
            cases e2
            subst ec'
            obtain ⟨xs, hx, rx⟩ := cb'.at_ 0 b _ rfl rfl
            refine ⟨xs, hx, ?_⟩
            cases rx with
            | cons q1 rx => cases rx with
              | cons q2 rx => cases rx with
                | cons q3 rx => cases rx with
                  | cons q4 rx =>
                    cases rx
                    exact .cons (.v (flat_rp rfl q1.toRp)) (.cons (.v (flat_rp rfl q2.toRp)) (.cons (.v (flat_rp rfl q3.toRp)) (.cons (.v (flat_rp rfl q4.toRp)) .nil)))
          · rw [List.getElem?_set_ne hj] at e2
            have hb2 : a ≠ b := fun z => hj ((List.getElem?_inj (List.getElem?_eq_some_iff.mp ek).1 s1.ce.nd).mp (ek.trans (by rw [← z]; exact e1.symm)))
            exact (s1.ce.at_ j a m e1 e2).tr t2 fun o e => tr.keep a o e fun z => hb2 (List.mem_singleton.mp z)
        exact q A1 _ v (.v p) H' (t1.trans t2) (s1.tr t2 cc) (.v rp2) (f p c' hr hb')
end

/-! ### a def keeps such a promise, by its body -/
def startE (N : Nat) (ds : List D) : Env := ds.map some ++ List.replicate (N - ds.length) none
theorem sl_start {K : PySem.W.Frag} {X : Addr → Prop} {A : List Addr} {H : Hp} {vs : List V} {ds : List D} {N : List Str} (r : RDs K X A H vs ds) : Sl K X A (startE N.length ds) (L2.start N vs) H := by
  unfold startE L2.start
  refine ⟨by simp [r.length], fun i d e => ?_⟩
  by_cases hi : i < ds.length
  · rw [List.getElem?_append_left (by simpa using hi), List.getElem?_map] at e
    cases e2 : ds[i]? with
    | none => rw [e2] at e; cases e
    | some d' =>
      rw [e2] at e
      cases e
      obtain ⟨v, e3, rv⟩ := r.get e2
      refine ⟨v, ?_, rv⟩
      rw [List.getElem?_append_left (by rw [List.length_map, r.length]; exact hi), List.getElem?_map, e3]
      rfl
  · rw [List.getElem?_append_right (by simpa using hi), List.getElem?_replicate] at e
    split at e <;> cases e
section
variable {K : PySem.W.Frag} {α : Type} {args : α → List P} {pre : α → Prop} {cost : α → Nat} {res : α → P → Prop} {t : TS} {N : List Str}
/-- from the calculus to the reading, for a def over data -/
theorem pf_body {x : α} (h : SV K 0 t (startE N.length ((args x).map .v)) [] { nx := fun _ _ => res x .non, rt := fun M d => ∃ p, Fz 0 M d p ∧ res x p }) {X : Addr → Prop} {vs : List V} {H : Hp} {Q : VK}
    (hx : ∀ a, X a → ∃ o, H a = some o) (r : Rps K X H vs (args x)) (q : ∀ v p H', Same H H' → Rp K X H' v p → res x p → Q v H') : t { nx := fun _ H' => Q .non H', rt := Q } (L2.start N vs) H := by
  have c0 : Cells K X [] [] H := ⟨List.nodup_nil, rfl, fun k a c e _ => by simp at e, hx, fun a _ h => by simp at h⟩
  have r0 : RDs K X [] H vs ((args x).map .v) := .ofRps (r.less fun a z => z.elim id fun z => by simp at z)
  refine h X [] H rfl [] (L2.start N vs) H _ .refl ⟨c0, sl_start r0⟩ ⟨fun A M Γ σ H' t1 s1 e => ?_, fun A M Γ σ H' v d t1 s1 r1 ⟨p, fz, hr⟩ => ?_, fun A M Γ σ H' t1 s1 e => e.elim, fun A M Γ σ H' t1 s1 e => e.elim⟩
  · exact q .non .non H' (fun a o e => t1.keep a o e (by simp)) .non e
  · exact q v p H' (fun a o e => t1.keep a o e (by simp)) (Fz.rp0 s1.ce fz r1) hr
/-- .. for a def over a box and data -/
theorem bf_body {x : α} {n : Nat} {c : MC} (hc : Bx n c) (h : SV K 1 t (startE N.length (.c 0 :: (args x).map .v)) [c] { nx := fun _ M => res x .non ∧ ∃ c' M', M = c' :: M' ∧ Bx (n + cost x) c', rt := fun M d => ∃ p, Fz 1 M d p ∧ res x p ∧ ∃ c' M', M = c' :: M' ∧ Bx (n + cost x) c' }) {X : Addr → Prop} {b : Addr} {vs : List V} {H : Hp} {Q : VK}
    (cb : Cells K X [b] [c] H) (r : Rps K (XA X [b]) H vs (args x)) (q : ∀ v p c' H', Tr [b] H [b] H' → Cells K X [b] [c'] H' → Rp K (XA X [b]) H' v p → Bx (n + cost x) c' → res x p → Q v H') : t { nx := fun _ H' => Q .non H', rt := Q } (L2.start N (.ref b :: vs)) H := by
  have r0 : RDs K X [b] H (.ref b :: vs) (.c 0 :: (args x).map .v) := .cons (.c rfl) (.ofRps r)
  have fin : ∀ {A : List Addr} {M : Mem} {Γ : Env} {σ : L2.St} {H' : Hp} {c' : MC} {M' : Mem}, Tr [b] H A H' → St K X A M Γ σ H' → M = c' :: M' → Bx (n + cost x) c' → Tr [b] H [b] H' ∧ Cells K X [b] [c'] H' ∧ A.take 1 = [b] := fun {A M Γ σ H' c' M'} t1 s1 eM hb => by
    obtain ⟨B, eA, fB⟩ := t1.ext
    subst eA eM
    obtain ⟨a1, g1, m1, d1, ec', _⟩ := id hb
    refine ⟨⟨⟨[], by simp, by simp⟩, t1.keep, t1.stay⟩, ⟨List.nodup_cons.mpr ⟨by simp, List.nodup_nil⟩, rfl, fun j a m e1 e2 => ?_, s1.ce.xs, fun a z h => s1.ce.dj a z (List.mem_append_left _ h)⟩, rfl⟩
    have hj : j = 0 := by
      have := (List.getElem?_eq_some_iff.mp e1).1
      rw [List.length_singleton] at this
      omega
    subst hj
    cases e1
    cases e2
    subst ec'
    obtain ⟨xs, hx, rx⟩ := s1.ce.at_ 0 b _ rfl rfl
    refine ⟨xs, hx, ?_⟩
    cases rx with
    | cons q1 rx => cases rx with
      | cons q2 rx => cases rx with
        | cons q3 rx => cases rx with
          | cons q4 rx =>
            cases rx
            exact .cons (.v (flat_rp rfl q1.toRp)) (.cons (.v (flat_rp rfl q2.toRp)) (.cons (.v (flat_rp rfl q3.toRp)) (.cons (.v (flat_rp rfl q4.toRp)) .nil)))
  refine h X [b] H rfl [b] (L2.start N (.ref b :: vs)) H _ .refl ⟨cb, sl_start r0⟩ ⟨fun A M Γ σ H' t1 s1 ⟨hr, c', M', eM, hb⟩ => ?_, fun A M Γ σ H' v d t1 s1 r1 ⟨p, fz, hr, c', M', eM, hb⟩ => ?_, fun A M Γ σ H' t1 s1 e => e.elim, fun A M Γ σ H' t1 s1 e => e.elim⟩
  · obtain ⟨t2, c2, _⟩ := fin t1 s1 eM hb
    exact q .non .non c' H' t2 c2 .non hb hr
  · obtain ⟨t2, c2, e2⟩ := fin t1 s1 eM hb
    have rp := Fz.rp s1.ce fz r1
    rw [e2] at rp
    exact q v p c' H' t2 c2 rp hb hr
end
end Z
set_option maxRecDepth 100000
set_option maxHeartbeats 4000000
/-! The calculus: operators, built-ins, fields, instances. -/
namespace Z
open PySem PySem.Spec PyProof.Rows L2

/-! ### operators, joined over the kinds -/
abbrev rI0A : R2 := rI0 fun i j => .int (i + j)
abbrev rStrA : R2 := fun x y H Q => ∃ i j, x = .str i ∧ y = .str j ∧ i.length + j.length ≤ sizeLine ∧ Q (.str (i ++ j)) H
def rPlus (K : PySem.W.Frag) : R2 := fun x y H Q => rI0A x y H Q ∨ rCatA K x y H Q ∨ rCat x y H Q ∨ rStrA x y H Q
theorem op_plus {X : Cx} : OpR X (binaryOp .Add) (rPlus X.K) := op_add.or (op_catA.or (op_cat.or op_add_str))
def rEqA (K : PySem.W.Frag) : R2 := fun x y H Q => rEq x y H Q ∨ rEqD K x y H Q
def rNeA (K : PySem.W.Frag) : R2 := fun x y H Q => rNe x y H Q ∨ rNeD K x y H Q
theorem op_eqA {X : Cx} (hu : X.A.units + 64 < cLine) : OpR X (compareOp .Eq) (rEqA X.K) := op_eq.or (op_eqD hu)
theorem op_neA {X : Cx} (hu : X.A.units + 64 < cLine) : OpR X (compareOp .NotEq) (rNeA X.K) := op_ne.or (op_neD hu)
section
variable {K : PySem.W.Frag} {i j : Int} {ps qs : List P} {p q z : P}
theorem rv_ii {f : Int → Int → Int} : RV K (rI0 fun i j => .int (f i j)) (.int i) (.int j) (.int (f i j)) := fun X H x y hx r1 r2 Q k => by
  cases r1; cases r2
  exact ⟨i, j, rfl, rfl, k _ H (Same.refl H) (.int _)⟩
theorem rv_ib {f : Int → Int → Bool} : RV K (rI0 fun i j => .bl (f i j)) (.int i) (.int j) (.bl (f i j)) := fun X H x y hx r1 r2 Q k => by
  cases r1; cases r2
  exact ⟨i, j, rfl, rfl, k _ H (Same.refl H) (.bl _)⟩
theorem rv_ic {C : Int → Int → Prop} {f : Int → Int → Int} (h : C i j) : RV K (rI C fun i j => .int (f i j)) (.int i) (.int j) (.int (f i j)) := fun X H x y hx r1 r2 Q k => by
  cases r1; cases r2
  exact ⟨i, j, rfl, rfl, h, k _ H (Same.refl H) (.int _)⟩
theorem rv_ip {f : Int → Int → Int} : RV K (ipI f) (.int i) (.int j) (.int (f i j)) := fun X H x y hx r1 r2 Q k => by
  cases r1; cases r2
  exact ⟨i, j, rfl, rfl, k _ H (Same.refl H) (.int _)⟩
theorem ru_i {f : Int → Int} : RU K (rU fun i => .int (f i)) (.int i) (.int (f i)) := fun X H x hx r1 Q k => by
  cases r1
  exact ⟨i, rfl, k _ H (Same.refl H) (.int _)⟩
theorem rv_plus_i : RV K (rPlus K) (.int i) (.int j) (.int (i + j)) := fun X H x y hx r1 r2 Q k => by
  cases r1; cases r2
  exact .inl ⟨i, j, rfl, rfl, k _ H (Same.refl H) (.int _)⟩
theorem rv_plus_s {i j : Str} (h : i.length + j.length ≤ sizeLine) : RV K (rPlus K) (.str i) (.str j) (.str (i ++ j)) := fun X H x y hx r1 r2 Q k => by
  cases r1; cases r2
  exact .inr (.inr (.inr ⟨i, j, rfl, rfl, h, k _ H (Same.refl H) (.str _)⟩))
theorem rv_plus_t (h : ps.length + qs.length ≤ sizeLine) : RV K (rPlus K) (.tup ps) (.tup qs) (.tup (ps ++ qs)) := fun X H x y hx r1 r2 Q k => by
  obtain ⟨a, xs, e1, q1, rx⟩ := id r1.tupOf
  obtain ⟨b, ys, e2, q2, ry⟩ := id r2.tupOf
  subst e1 e2
  refine .inr (.inl ⟨a, b, xs, ys, rfl, rfl, q1, q2, by rw [Rps.length rx, Rps.length ry]; exact h, fun e => ?_, fun _ e => ?_, fun _ _ p hp => ?_⟩)
  · have e0 : ps = [] := List.length_eq_zero_iff.mp (by rw [← Rps.length rx, e]; rfl)
    subst e0
    exact k _ H (Same.refl H) r2
  · have e0 : qs = [] := List.length_eq_zero_iff.mp (by rw [← Rps.length ry, e]; rfl)
    subst e0
    rw [List.append_nil] at k
    exact k _ H (Same.refl H) r1
  · exact k _ _ (same_new hp) (Rp.newT hx hp (rx.append ry))
theorem rv_plus_l (h : ps.length + qs.length ≤ sizeLine) : RV K (rPlus K) (.lst ps) (.lst qs) (.lst (ps ++ qs)) := fun X H x y hx r1 r2 Q k => by
  obtain ⟨a, xs, e1, q1, _, rx⟩ := r1.lstOf
  obtain ⟨b, ys, e2, q2, _, ry⟩ := r2.lstOf
  subst e1 e2
  exact .inr (.inr (.inl ⟨a, b, xs, ys, rfl, rfl, q1, q2, by rw [Rps.length rx, Rps.length ry]; exact h, fun p hp => k _ _ (same_new hp) (Rp.newL hx hp (rx.append ry))⟩))
/-! ### == -/
theorem rv_eq_ii : RV K (rEqA K) (.int i) (.int j) (.bl (decide (i = j))) := fun X H x y hx r1 r2 Q k => by
  cases r1; cases r2
  refine .inl ⟨rfl, ?_⟩
  have e : decide (V.int i = V.int j) = decide (i = j) := by by_cases h : i = j <;> simp [h]
  rw [e]
  exact k _ H (Same.refl H) (.bl _)
theorem rv_ne_ii : RV K (rNeA K) (.int i) (.int j) (.bl (!decide (i = j))) := fun X H x y hx r1 r2 Q k => by
  cases r1; cases r2
  refine .inl ⟨rfl, ?_⟩
  have e : decide (V.int i = V.int j) = decide (i = j) := by by_cases h : i = j <;> simp [h]
  rw [e]
  exact k _ H (Same.refl H) (.bl _)
theorem rv_eq_ss {i j : Str} : RV K (rEqA K) (.str i) (.str j) (.bl (decide (i = j))) := fun X H x y hx r1 r2 Q k => by
  cases r1; cases r2
  refine .inl ⟨rfl, ?_⟩
  have e : decide (V.str i = V.str j) = decide (i = j) := by by_cases h : i = j <;> simp [h]
  rw [e]
  exact k _ H (Same.refl H) (.bl _)
theorem rv_ne_ss {i j : Str} : RV K (rNeA K) (.str i) (.str j) (.bl (!decide (i = j))) := fun X H x y hx r1 r2 Q k => by
  cases r1; cases r2
  refine .inl ⟨rfl, ?_⟩
  have e : decide (V.str i = V.str j) = decide (i = j) := by by_cases h : i = j <;> simp [h]
  rw [e]
  exact k _ H (Same.refl H) (.bl _)
theorem rv_eq_bb {i j : Bool} : RV K (rEqA K) (.bl i) (.bl j) (.bl (i == j)) := fun X H x y hx r1 r2 Q k => by
  cases r1; cases r2
  refine .inl ⟨rfl, ?_⟩
  have e : decide (V.bl i = V.bl j) = (i == j) := by cases i <;> cases j <;> rfl
  rw [e]
  exact k _ H (Same.refl H) (.bl _)
theorem rv_ne_bb {i j : Bool} : RV K (rNeA K) (.bl i) (.bl j) (.bl (i != j)) := fun X H x y hx r1 r2 Q k => by
  cases r1; cases r2
  refine .inl ⟨rfl, ?_⟩
  have e : (!decide (V.bl i = V.bl j)) = (i != j) := by cases i <;> cases j <;> rfl
  rw [e]
  exact k _ H (Same.refl H) (.bl _)
theorem rv_eq_ni : RV K (rEqA K) .non (.int j) (.bl false) := fun X H x y hx r1 r2 Q k => by
  cases r1; cases r2
  exact .inl ⟨rfl, k _ H (Same.refl H) (.bl false)⟩
theorem rv_eq_is {s : Str} : RV K (rEqA K) (.int i) (.str s) (.bl false) := fun X H x y hx r1 r2 Q k => by
  cases r1; cases r2
  exact .inl ⟨rfl, k _ H (Same.refl H) (.bl false)⟩
mutual
/-- as the library's data; instances are none -/
def py : P → PyData
  | .non => .none
  | .bl b => .bool b
  | .int i => .int i
  | .str s => .str s
  | .tup ds => .tuple (pys ds)
  | .lst ds => .list (pys ds)
  | .scr ds => .list (pys ds)
  | .ins _ _ _ => .none
def pys : List P → List PyData
  | [] => []
  | d :: ds => py d :: pys ds
end
mutual
/-- data nested at most n deep, no instances -/
def okd : Nat → P → Bool
  | _, .non => true
  | _, .bl _ => true
  | _, .int _ => true
  | _, .str s => PyData.strOk s
  | n + 1, .tup ds => okds n ds
  | n + 1, .lst ds => okds n ds
  | n + 1, .scr ds => okds n ds
  | _, _ => false
def okds : Nat → List P → Bool
  | _, [] => true
  | n, d :: ds => okd n d && okds n ds
end
mutual
theorem okd_shape : ∀ (n : Nat) (p : P), okd n p = true → (py p).canLay0 = true ∧ (py p).depth ≤ n
  | n, .non, _ => by simp [py, PyData.canLay0, PyData.depth]
  | n, .bl _, _ => by simp [py, PyData.canLay0, PyData.depth]
  | n, .int _, _ => by simp [py, PyData.canLay0, PyData.depth]
  | n, .str s, h => by
    have h2 : PyData.strOk s = true := by cases n <;> exact h
    simp [py, PyData.canLay0, PyData.depth, h2]
  | 0, .tup _, h => by cases h
  | 0, .lst _, h => by cases h
  | 0, .scr _, h => by cases h
  | n + 1, .tup ds, h => by
    obtain ⟨h1, h2⟩ := okds_shape n ds h
    exact ⟨by simp [py, PyData.canLay0, h1], by simp [py, PyData.depth]; exact h2⟩
  | n + 1, .lst ds, h => by
    obtain ⟨h1, h2⟩ := okds_shape n ds h
    exact ⟨by simp [py, PyData.canLay0, h1], by simp [py, PyData.depth]; exact h2⟩
  | n + 1, .scr ds, h => by
    obtain ⟨h1, h2⟩ := okds_shape n ds h
    exact ⟨by simp [py, PyData.canLay0, h1], by simp [py, PyData.depth]; exact h2⟩
  | 0, .ins _ _ _, h => by cases h
  | n + 1, .ins _ _ _, h => by cases h
theorem okds_shape : ∀ (n : Nat) (ds : List P), okds n ds = true → PyData.canLayAll0 (pys ds) = true ∧ PyData.depthAll (pys ds) ≤ n
  | n, [], _ => by simp [pys, PyData.canLayAll0, PyData.depthAll]
  | n, d :: ds, h => by
    have h' : okd n d = true ∧ okds n ds = true := by
      have h2 : (okd n d && okds n ds) = true := h
      exact Bool.and_eq_true_iff.mp h2
    obtain ⟨a1, a2⟩ := okd_shape n d h'.1
    obtain ⟨b1, b2⟩ := okds_shape n ds h'.2
    exact ⟨by simp [pys, PyData.canLayAll0, a1, b1], by simp only [pys, PyData.depthAll]; omega⟩
end
theorem okd_shaped {n : Nat} {p : P} (h : okd n p = true) (hn : n ≤ 64) : SeqAt.shaped (py p) = true := by
  obtain ⟨h1, h2⟩ := okd_shape n p h
  unfold SeqAt.shaped
  rw [h1, decide_eq_true (by omega)]
  rfl
mutual
theorem dp_of {X : Addr → Prop} {H : Hp} : ∀ {n : Nat} {p : P} {v : V}, okd n p = true → Rp K X H v p → Dp K H v (py p)
  | _, _, _, _, .non => .non
  | _, _, _, _, .bl b => .bl b
  | _, _, _, _, .int i => .int i
  | _, _, _, _, .str s => .str s
  | 0, _, _, h, .tup _ _ _ => by cases h
  | 0, _, _, h, .tupK _ _ => by cases h
  | 0, _, _, h, .lst _ _ _ => by cases h
  | 0, _, _, h, .scr _ _ _ => by cases h
  | 0, _, _, h, .scrK _ _ => by cases h
  | n + 1, _, _, h, .tup hq _ r => .tup (.inl hq) (dps_of (n := n) h r)
  | n + 1, _, _, h, .tupK hq r => .tup (.inr hq) (dps_of (n := n) h r)
  | n + 1, _, _, h, .lst hq _ r => .lst (.inl (.inl hq)) (dps_of (n := n) h r)
  | n + 1, _, _, h, .scr hq _ r => .lst (.inl hq) (dps_of (n := n) h r)
  | n + 1, _, _, h, .scrK hq r => .lst (.inr hq) (dps_of (n := n) h r)
  | 0, _, _, h, .ins _ _ _ _ => by cases h
  | n + 1, _, _, h, .ins _ _ _ _ => by cases h
theorem dps_of {X : Addr → Prop} {H : Hp} : ∀ {n : Nat} {ps : List P} {vs : List V}, okds n ps = true → Rps K X H vs ps → DpAll K H vs (pys ps)
  | _, _, _, _, .nil => .nil
  | n, p :: ps, _, h, .cons r1 r2 => by
    have h' : okd n p = true ∧ okds n ps = true := Bool.and_eq_true_iff.mp h
    exact .cons (dp_of h'.1 r1) (dps_of h'.2 r2)
end
/-- == of data -/
def pEq (p q : P) : Bool := PyData.eqv (py p) (py q)
theorem rv_eq_d {n : Nat} (h1 : okd n p = true) (h2 : okd n q = true) (hn : n ≤ 64) : RV K (rEqA K) p q (.bl (pEq p q)) := fun X H x y hx r1 r2 Q k =>
  .inr ⟨py p, py q, dp_of h1 r1, dp_of h2 r2, okd_shaped h1 hn, okd_shaped h2 hn, k _ H (Same.refl H) (.bl _)⟩
theorem rv_ne_d {n : Nat} (h1 : okd n p = true) (h2 : okd n q = true) (hn : n ≤ 64) : RV K (rNeA K) p q (.bl (!pEq p q)) := fun X H x y hx r1 r2 Q k =>
  .inr ⟨py p, py q, dp_of h1 r1, dp_of h2 r2, okd_shaped h1 hn, okd_shaped h2 hn, k _ H (Same.refl H) (.bl _)⟩
/-! ### items, slices, in -/
theorem Rps.atI {X : Addr → Prop} {H : Hp} {xs : List V} {d : P} (r : Rps K X H xs ps) (h : atI ps i = some d) : ∃ v, L2.atI xs i = some v ∧ Rp K X H v d := by
  obtain ⟨j, _, ej, hj⟩ := atI_len (Rps.length r) h
  obtain ⟨v, ev, rv⟩ := Rps.get r ej
  exact ⟨v, hj v ev, rv⟩
theorem rv_ixT {d : P} (h : atI ps i = some d) : RV K (rIx K) (.tup ps) (.int i) d := fun X H x y hx r1 r2 Q k => by
  obtain ⟨a, xs, e1, q1, rx⟩ := r1.tupOf
  subst e1
  cases r2
  obtain ⟨v, ev, rv⟩ := rx.atI h
  exact .inr (.inl ⟨a, xs, i, v, rfl, rfl, q1, ev, k v H (Same.refl H) rv⟩)
theorem rv_ixL {d : P} (h : atI ps i = some d) : RV K (rIx K) (.lst ps) (.int i) d := fun X H x y hx r1 r2 Q k => by
  obtain ⟨a, xs, e1, q1, _, rx⟩ := r1.lstOf
  subst e1
  cases r2
  obtain ⟨v, ev, rv⟩ := rx.atI h
  exact .inl ⟨a, xs, i, v, rfl, rfl, .inl (.inl q1), ev, k v H (Same.refl H) rv⟩
theorem rv_ixR {d : P} (h : atI ps i = some d) : RV K (rIx K) (.scr ps) (.int i) d := fun X H x y hx r1 r2 Q k => by
  obtain ⟨a, xs, e1, q1, rx⟩ := r1.scrOf
  subst e1
  cases r2
  obtain ⟨v, ev, rv⟩ := rx.atI h
  exact .inl ⟨a, xs, i, v, rfl, rfl, q1, ev, k v H (Same.refl H) rv⟩
theorem rv_ixS {s : Str} {c : Nat} (hl : s.length ≤ sizeLine) (h : atI s.cps.toList i = some c) : RV K (rIx K) (.str s) (.int i) (.str ⟨#[c]⟩) := fun X H x y hx r1 r2 Q k => by
  cases r1; cases r2
  exact .inr (.inr ⟨s, i, c, rfl, rfl, hl, h, k _ H (Same.refl H) (.str _)⟩)
def toV : P → V
  | .non => .non | .bl b => .bl b | .int i => .int i | .str s => .str s | _ => .non
theorem flat_toV {X : Addr → Prop} {H : Hp} {v : V} (h : flat p = true) (r : Rp K X H v p) : v = toV p := by
  cases r <;> first | rfl | cases h
theorem flats_toV {X : Addr → Prop} {H : Hp} : ∀ {vs : List V} {ps : List P}, ps.all flat = true → Rps K X H vs ps → vs = ps.map toV
  | _, _, _, .nil => rfl
  | _, _, h, .cons r t => by
    rw [List.all_cons, Bool.and_eq_true] at h
    rw [flat_toV h.1 r, flats_toV h.2 t]
    rfl
theorem flat_flatV : ∀ {p : P}, flat p = true → flatV (toV p) = true
  | .non, _ => rfl
  | .bl _, _ => rfl
  | .int _, _ => rfl
  | .str _, _ => rfl
theorem flats_flatV : ∀ {ps : List P}, ps.all flat = true → (ps.map toV).all flatV = true
  | [], _ => rfl
  | p :: ps, h => by
    rw [List.all_cons, Bool.and_eq_true] at h
    rw [List.map_cons, List.all_cons, flat_flatV h.1, flats_flatV h.2]
    rfl
/-- x in a list or tuple of flat items -/
def inP (p : P) (ps : List P) : Bool := inV (toV p) (ps.map toV)
theorem rv_inL (h1 : flat p = true) (h2 : ps.all flat = true) {neg : Bool} : RV K (rIn K neg) p (.lst ps) (.bl (if neg then !inP p ps else inP p ps)) := fun X H x y hx r1 r2 Q k => by
  obtain ⟨a, xs, e1, q1, _, rx⟩ := r2.lstOf
  subst e1
  have ex := flat_toV h1 r1
  have exs := flats_toV h2 rx
  subst ex exs
  exact ⟨a, _, rfl, .inl (.inl (.inl q1)), flat_flatV h1, flats_flatV h2, k _ H (Same.refl H) (.bl _)⟩
theorem rv_inT (h1 : flat p = true) (h2 : ps.all flat = true) {neg : Bool} : RV K (rIn K neg) p (.tup ps) (.bl (if neg then !inP p ps else inP p ps)) := fun X H x y hx r1 r2 Q k => by
  obtain ⟨a, xs, e1, q1, rx⟩ := r2.tupOf
  subst e1
  have ex := flat_toV h1 r1
  have exs := flats_toV h2 rx
  subst ex exs
  exact ⟨a, _, rfl, .inr q1, flat_flatV h1, flats_flatV h2, k _ H (Same.refl H) (.bl _)⟩
theorem rv_isB {a b : Bool} : RV K (fun x y H Q => ∃ a b : Bool, x = .bl a ∧ y = .bl b ∧ Q (.bl (decide (a = b))) H) (.bl a) (.bl b) (.bl (a == b)) := fun X H x y hx r1 r2 Q k => by
  cases r1; cases r2
  have e : decide (a = b) = (a == b) := by cases a <;> cases b <;> rfl
  exact ⟨a, b, rfl, rfl, by rw [e]; exact k _ H (Same.refl H) (.bl _)⟩

/-! slices -/
def SLV (K : PySem.W.Frag) (r : V → Option Int → Option Int → Hp → VK → Prop) (p : P) (lo hi : Option Int) (z : P) : Prop := ∀ (X : Addr → Prop) (H : Hp) (x : V), (∀ a, X a → ∃ o, H a = some o) → Rp K X H x p → ∀ Q : VK, (∀ v H', Same H H' → Rp K X H' v z → Q v H') → r x lo hi H Q
def cutP {α : Type} (xs : List α) (lo hi : Option Int) : List α := (xs.drop (HT.sIx xs.length 0 lo)).take (HT.sIx xs.length xs.length hi - HT.sIx xs.length 0 lo)
theorem Rps.cut {X : Addr → Prop} {H : Hp} {xs : List V} (r : Rps K X H xs ps) (lo hi : Option Int) : Rps K X H (cutV xs lo hi) (cutP ps lo hi) := by
  unfold cutV cutP
  rw [Rps.length r]
  exact (r.drop _).take _
abbrev rSlSeq (K : PySem.W.Frag) : V → Option Int → Option Int → Hp → VK → Prop := fun x lo hi H Q => rSlA K x lo hi H Q ∨ rSlL K x lo hi H Q ∨ rSlS x lo hi H Q
theorem sl_seq {X : Cx} : SlR X (rSlSeq X.K) := sl_tupA.or (sl_list.or sl_str)
theorem slv_t {lo hi : Option Int} : SLV K (rSlSeq K) (.tup ps) lo hi (.tup (cutP ps lo hi)) := fun X H x hx r1 Q k => by
  obtain ⟨a, xs, e1, q1, rx⟩ := id r1.tupOf
  subst e1
  refine .inl ⟨a, xs, rfl, q1, fun ⟨e1, e2⟩ => ?_, fun _ p hp => k _ _ (same_new hp) (Rp.newT hx hp (rx.cut lo hi))⟩
  have e : cutP ps lo hi = ps := by
    unfold cutP
    rw [← Rps.length rx, e1, e2, List.drop_zero, Nat.sub_zero, Rps.length rx, List.take_length]
  rw [e] at k
  exact k _ H (Same.refl H) r1
theorem slv_l {lo hi : Option Int} : SLV K (rSlSeq K) (.lst ps) lo hi (.lst (cutP ps lo hi)) := fun X H x hx r1 Q k => by
  obtain ⟨a, xs, e1, q1, _, rx⟩ := r1.lstOf
  subst e1
  exact .inr (.inl ⟨a, xs, rfl, .inl (.inl q1), fun p hp => k _ _ (same_new hp) (Rp.newL hx hp (rx.cut lo hi))⟩)
theorem slv_r {lo hi : Option Int} : SLV K (rSlSeq K) (.scr ps) lo hi (.lst (cutP ps lo hi)) := fun X H x hx r1 Q k => by
  obtain ⟨a, xs, e1, q1, rx⟩ := r1.scrOf
  subst e1
  exact .inr (.inl ⟨a, xs, rfl, q1, fun p hp => k _ _ (same_new hp) (Rp.newL hx hp (rx.cut lo hi))⟩)
theorem slv_s {s : Str} {lo hi : Option Int} (h : s.length ≤ sizeLine) : SLV K (rSlSeq K) (.str s) lo hi (.str (cutS s lo hi)) := fun X H x hx r1 Q k => by
  cases r1
  exact .inr (.inr ⟨s, rfl, h, k _ H (Same.refl H) (.str _)⟩)
/-- an optional end of a slice -/
def EO (K : PySem.W.Frag) (to : TO) (Γ : Env) (M : Mem) (o : Option Int) : Prop :=
  ∀ (X : Addr → Prop) (A : List Addr) (σ : L2.St) (H : Hp), St K X A M Γ σ H → ∀ Q : Option Int → Hp → Prop, (∀ H', Same H H' → Q o H') → to σ H Q
end
/-- nothing at all changes but new objects -/
def EPs1 (K : PySem.W.Frag) (te : TE) (Γ : Env) (M : Mem) (p : P) : Prop := ∀ (X : Addr → Prop) (A : List Addr) (σ : L2.St) (H : Hp), St K X A M Γ σ H → ∀ Q : VK, (∀ A' v H', Tr A H A' H' → St K X A' M Γ σ H' → Rp K (XA X A') H' v p → Q v H') → te σ H Q
section
variable {K : PySem.W.Frag} {Γ : Env} {M : Mem} {te : TE} {tl th : TO} {p z : P} {lo hi : Option Int} {i : Int} {tar tk : TA} {ps : List P}
/-- the ends of a slice -/
def EO2 (K : PySem.W.Frag) (to : TO) (Γ : Env) (M : Mem) (o : Option Int) : Prop :=
  ∀ (X : Addr → Prop) (A : List Addr) (σ : L2.St) (H : Hp), St K X A M Γ σ H → ∀ Q : Option Int → Hp → Prop, (∀ A' H', Tr A H A' H' → St K X A' M Γ σ H' → Q o H') → to σ H Q
theorem eo_none : EO2 K tNoPart Γ M none := fun X A σ H s Q q => q A H .refl s
theorem eo_some (h : EP K te Γ M (.int i)) : EO2 K (tPart te) Γ M (some i) := fun X A σ H s Q q => h X A σ H s _ fun A1 M1 v d H1 t1 s1 r ⟨e1, e2⟩ => by
  subst e1 e2
  cases r with
  | v r => cases r; exact ⟨i, rfl, q A1 H1 t1 s1⟩
theorem ep_sl {r : V → Option Int → Option Int → Hp → VK → Prop} (h : EP K te Γ M p) (h1 : EO2 K tl Γ M lo) (h2 : EO2 K th Γ M hi) (hr : SLV K r p lo hi z) : EP K (tSl r te tl th) Γ M z := fun X A σ H s Q q =>
  h X A σ H s _ fun A1 M1 v d H1 t1 s1 r1 ⟨e1, e2⟩ => by
    subst e1 e2
    exact h1 X A1 σ H1 s1 _ fun A2 H2 t2 s2 => h2 X A2 σ H2 s2 _ fun A3 H3 t3 s3 =>
      hr (XA X A3) H3 v s3.ce.xa (t3.rp (t2.rp r1.toRp)) Q fun w H' sm rz => q A3 _ w (.v z) H' (((t1.trans t2).trans t3).trans (.ofSame sm)) (s3.same sm) (.v rz) ⟨rfl, rfl⟩
/-! ### built-ins -/
def lenP : P → Option Nat
  | .str s => if s.length ≤ sizeLine then some s.length else none
  | .tup ds => some ds.length | .lst ds => some ds.length | .scr ds => some ds.length
  | _ => none
theorem rc_len {n : Nat} (h : lenP p = some n) : RC K (fun xs H Q => ∃ x n, xs = [x] ∧ LenV K x H n ∧ Q (.int n) H) [p] (.int (n : Int)) := fun X H xs hx r Q k => by
  cases r with
  | cons r1 r2 =>
    cases r2
    refine ⟨_, n, rfl, ?_, k _ H (Same.refl H) (.int _)⟩
    cases r1 with
    | str s =>
      have h2 : (if s.length ≤ sizeLine then some s.length else none) = some n := h
      by_cases hl : s.length ≤ sizeLine
      · rw [if_pos hl] at h2
        cases h2
        exact ⟨hl, rfl⟩
      · rw [if_neg hl] at h2
        cases h2
    | tup hq _ rr => cases h; exact .inr ⟨_, .inl hq, (Rps.length rr).symm⟩
    | tupK hq rr => cases h; exact .inr ⟨_, .inr hq, (Rps.length rr).symm⟩
    | lst hq _ rr => cases h; exact .inl ⟨_, .inl (.inl hq), (Rps.length rr).symm⟩
    | scr hq _ rr => cases h; exact .inl ⟨_, .inl hq, (Rps.length rr).symm⟩
    | scrK hq rr => cases h; exact .inl ⟨_, .inr hq, (Rps.length rr).symm⟩
    | _ => cases h
theorem rc_abs : RC K (fun xs H Q => ∃ i, xs = [.int i] ∧ Q (.int (if i < 0 then -i else i)) H) [.int i] (.int (if i < 0 then -i else i)) := fun X H xs hx r Q k => by
  cases r with
  | cons r1 r2 => cases r2; cases r1; exact ⟨i, rfl, k _ H (Same.refl H) (.int _)⟩
theorem rc_int : RC K (fun xs H Q => (∃ i, xs = [.int i] ∧ Q (.int i) H) ∨ ∃ k, xs = [.bl k] ∧ Q (.int (if k then 1 else 0)) H) [.int i] (.int i) := fun X H xs hx r Q k => by
  cases r with
  | cons r1 r2 => cases r2; cases r1; exact .inl ⟨i, rfl, k _ H (Same.refl H) (.int _)⟩
theorem rc_intB {b : Bool} : RC K (fun xs H Q => (∃ i, xs = [.int i] ∧ Q (.int i) H) ∨ ∃ k, xs = [.bl k] ∧ Q (.int (if k then 1 else 0)) H) [.bl b] (.int (if b = true then 1 else 0)) := fun X H xs hx r Q k => by
  cases r with
  | cons r1 r2 => cases r2; cases r1; exact .inr ⟨b, rfl, k _ H (Same.refl H) (.int _)⟩
abbrev rMaxA (K : PySem.W.Frag) : List V → Hp → VK → Prop := fun xs H Q => rMax K xs H Q ∨ ∃ i j, xs = [.int i, .int j] ∧ Q (.int (if j > i then j else i)) H
abbrev rMinA (K : PySem.W.Frag) : List V → Hp → VK → Prop := fun xs H Q => rMin K xs H Q ∨ ∃ i j, xs = [.int i, .int j] ∧ Q (.int (if j < i then j else i)) H
theorem call_maxA {X : Cx} (hc : X.calm = true) : CallR X (.builtin "max") (rMaxA X.K) := (cr_max hc).or (call_max2 hc)
theorem call_minA {X : Cx} (hc : X.calm = true) : CallR X (.builtin "min") (rMinA X.K) := (cr_min hc).or (call_min2 hc)
theorem rc_max2 {j : Int} : RC K (rMaxA K) [.int i, .int j] (.int (if j > i then j else i)) := fun X H xs hx r Q k => by
  cases r with
  | cons r1 r2 => cases r2 with
    | cons r2 r3 => cases r3; cases r1; cases r2; exact .inr ⟨i, j, rfl, k _ H (Same.refl H) (.int _)⟩
theorem rc_min2 {j : Int} : RC K (rMinA K) [.int i, .int j] (.int (if j < i then j else i)) := fun X H xs hx r Q k => by
  cases r with
  | cons r1 r2 => cases r2 with
    | cons r2 r3 => cases r3; cases r1; cases r2; exact .inr ⟨i, j, rfl, k _ H (Same.refl H) (.int _)⟩
def maxL : List Int → Int
  | [] => 0
  | x :: xs => xs.foldl max x
def minL : List Int → Int
  | [] => 0
  | x :: xs => xs.foldl min x
theorem foldl_max_ge : ∀ (xs : List Int) (x : Int), x ≤ xs.foldl max x ∧ (∀ y ∈ xs, y ≤ xs.foldl max x) ∧ (xs.foldl max x = x ∨ xs.foldl max x ∈ xs)
  | [], x => ⟨Int.le_refl _, by simp, .inl rfl⟩
  | y :: ys, x => by
    obtain ⟨h1, h2, h3⟩ := foldl_max_ge ys (max x y)
    refine ⟨by simp only [List.foldl_cons]; omega, fun z hz => ?_, ?_⟩
    · simp only [List.foldl_cons]
      rcases List.mem_cons.mp hz with h | h
      · subst h; omega
      · exact h2 z h
    · simp only [List.foldl_cons]
      rcases h3 with h | h
      · rw [h]
        rcases Int.le_total x y with q | q
        · right; rw [show max x y = y by omega]; exact List.mem_cons_self ..
        · left; omega
      · exact .inr (List.mem_cons_of_mem _ h)
theorem foldl_min_le : ∀ (xs : List Int) (x : Int), xs.foldl min x ≤ x ∧ (∀ y ∈ xs, xs.foldl min x ≤ y) ∧ (xs.foldl min x = x ∨ xs.foldl min x ∈ xs)
  | [], x => ⟨Int.le_refl _, by simp, .inl rfl⟩
  | y :: ys, x => by
    obtain ⟨h1, h2, h3⟩ := foldl_min_le ys (min x y)
    refine ⟨by simp only [List.foldl_cons]; omega, fun z hz => ?_, ?_⟩
    · simp only [List.foldl_cons]
      rcases List.mem_cons.mp hz with h | h
      · subst h; omega
      · exact h2 z h
    · simp only [List.foldl_cons]
      rcases h3 with h | h
      · rw [h]
        rcases Int.le_total x y with q | q
        · left; omega
        · right; rw [show min x y = y by omega]; exact List.mem_cons_self ..
      · exact .inr (List.mem_cons_of_mem _ h)
theorem maxL_of {ns : List Int} {m : Int} (h1 : m ∈ ns) (h2 : ∀ y ∈ ns, y ≤ m) : m = maxL ns := by
  cases ns with
  | nil => cases h1
  | cons x xs =>
    obtain ⟨a, b, c⟩ := foldl_max_ge xs x
    show m = xs.foldl max x
    have e1 : m ≤ xs.foldl max x := by
      rcases List.mem_cons.mp h1 with h | h
      · subst h; exact a
      · exact b m h
    have e2 : xs.foldl max x ≤ m := by
      rcases c with h | h
      · rw [h]; exact h2 x (List.mem_cons_self ..)
      · exact h2 _ (List.mem_cons_of_mem _ h)
    omega
theorem minL_of {ns : List Int} {m : Int} (h1 : m ∈ ns) (h2 : ∀ y ∈ ns, m ≤ y) : m = minL ns := by
  cases ns with
  | nil => cases h1
  | cons x xs =>
    obtain ⟨a, b, c⟩ := foldl_min_le xs x
    show m = xs.foldl min x
    have e1 : xs.foldl min x ≤ m := by
      rcases List.mem_cons.mp h1 with h | h
      · subst h; exact a
      · exact b m h
    have e2 : m ≤ xs.foldl min x := by
      rcases c with h | h
      · rw [h]; exact h2 x (List.mem_cons_self ..)
      · exact h2 _ (List.mem_cons_of_mem _ h)
    omega
theorem rc_maxL {ns : List Int} (h : 0 < ns.length) : RC K (rMaxA K) [.lst (ns.map .int)] (.int (maxL ns)) := fun X H xs hx r Q k => by
  cases r with
  | cons r1 r2 =>
    cases r2
    obtain ⟨a, ys, e, hq, _, rr⟩ := r1.lstOf
    subst e
    have ey := rr.ints
    subst ey
    exact .inl ⟨a, ns, rfl, .inl (.inl hq), h, fun m h1 h2 => by rw [maxL_of h1 h2]; exact k _ H (Same.refl H) (.int _)⟩
theorem rc_minL {ns : List Int} (h : 0 < ns.length) : RC K (rMinA K) [.lst (ns.map .int)] (.int (minL ns)) := fun X H xs hx r Q k => by
  cases r with
  | cons r1 r2 =>
    cases r2
    obtain ⟨a, ys, e, hq, _, rr⟩ := r1.lstOf
    subst e
    have ey := rr.ints
    subst ey
    exact .inl ⟨a, ns, rfl, .inl (.inl hq), h, fun m h1 h2 => by rw [minL_of h1 h2]; exact k _ H (Same.refl H) (.int _)⟩
theorem rc_sum {ns : List Int} : RC K (rSum K) [.lst (ns.map .int)] (.int ns.sum) := fun X H xs hx r Q k => by
  cases r with
  | cons r1 r2 =>
    cases r2
    obtain ⟨a, ys, e, hq, _, rr⟩ := r1.lstOf
    subst e
    have ey := rr.ints
    subst ey
    exact ⟨a, ns, rfl, .inl (.inl hq), k _ H (Same.refl H) (.int _)⟩
abbrev rListO (K : PySem.W.Frag) : List V → Hp → VK → Prop := fun xs H Q => ∃ p ys, xs = [.ref p] ∧ (SqL K H p ys ∨ SqT K H p ys) ∧ ∀ l, H l = none → Q (.ref l) (upd H l (.lst ys))
abbrev rTupO (K : PySem.W.Frag) : List V → Hp → VK → Prop := fun xs H Q => ∃ p ys, xs = [.ref p] ∧ ((SqL K H p ys ∧ ∀ l, H l = none → Q (.ref l) (upd H l (.tup ys))) ∨ (SqT K H p ys ∧ Q (.ref p) H))
def itemsP : P → Option (List P)
  | .tup ds => some ds | .lst ds => some ds | .scr ds => some ds | _ => none
theorem items_sq {X : Addr → Prop} {H : Hp} {v : V} (h : itemsP p = some ps) (r : Rp K X H v p) : ∃ a xs, v = .ref a ∧ (SqL K H a xs ∨ SqT K H a xs) ∧ Rps K X H xs ps := by
  cases r with
  | tup hq _ rr => cases h; exact ⟨_, _, rfl, .inr (.inl hq), rr⟩
  | tupK hq rr => cases h; exact ⟨_, _, rfl, .inr (.inr hq), rr⟩
  | lst hq _ rr => cases h; exact ⟨_, _, rfl, .inl (.inl (.inl hq)), rr⟩
  | scr hq _ rr => cases h; exact ⟨_, _, rfl, .inl (.inl hq), rr⟩
  | scrK hq rr => cases h; exact ⟨_, _, rfl, .inl (.inr hq), rr⟩
  | _ => cases h
theorem rc_list (h : itemsP p = some ps) : RC K (rListO K) [p] (.lst ps) := fun X H xs hx r Q k => by
  cases r with
  | cons r1 r2 =>
    cases r2
    obtain ⟨a, ys, e, hq, rr⟩ := items_sq h r1
    subst e
    exact ⟨a, ys, rfl, hq, fun l hl => k _ _ (same_new hl) (Rp.newL hx hl rr)⟩
/-- list(x), to be a cell -/
theorem en_list (h : EPs K tar Γ M [p]) (hp : itemsP p = some ps) : EN K (tCB (rListO K) tar) Γ M fun M' ds => M' = M ∧ ds = ps.map .v := fun X A σ H s Q q =>
  h X A σ H s _ fun A' M' vs ds H' t s' r ⟨e1, e2⟩ => by
    subst e1 e2
    have rr := r.toRps
    cases rr with
    | cons r1 r2 =>
      cases r2
      obtain ⟨a, ys, e, hq, ry⟩ := items_sq hp r1
      subst e
      refine ⟨a, ys, rfl, hq, fun p hpn => ?_⟩
      have hp0 : H p = none := by
        cases e : H p with
        | none => rfl
        | some o =>
          obtain ⟨u, q⟩ := t.stay p o e
          rw [hpn] at q
          cases q
      have tx : TrX X A' H' (X1 X p) A' (upd H' p (.lst ys)) := (Tr.ofSame (same_new hpn)).x.more hpn
      exact q A' _ p ys _ _ (t.trans (.ofSame (same_new hpn))) hp0 (s'.fresh hpn) upd_same (.ofRps (tx.rps ry)) ⟨rfl, rfl⟩
theorem rc_tupleL : RC K (rTupO K) [.lst ps] (.tup ps) := fun X H xs hx r Q k => by
  cases r with
  | cons r1 r2 =>
    cases r2
    obtain ⟨a, ys, e, hq, _, rr⟩ := r1.lstOf
    subst e
    exact ⟨a, ys, rfl, .inl ⟨.inl (.inl hq), fun l hl => k _ _ (same_new hl) (Rp.newT hx hl rr)⟩⟩
theorem rc_tupleT : RC K (rTupO K) [.tup ps] (.tup ps) := fun X H xs hx r Q k => by
  cases r with
  | cons r1 r2 =>
    cases r2
    obtain ⟨a, ys, e, hq, rr⟩ := id r1.tupOf
    subst e
    exact ⟨a, ys, rfl, .inr ⟨hq, k _ H (Same.refl H) r1⟩⟩
/-! ### isinstance -/
/-- what is asked of the class of a told instance -/
structure ClsI (K : PySem.W.Frag) (C : Addr) : Prop where
  cl : Cls K C
  ha : PySem.W.findIn K (.ref C) "__class__" = some (some (.builtin "object.__class__"))
  hn : PySem.W.specialIn K (.builtin "object.__class__") "__get__" = some (some (.builtin "getset_descriptor.__get__"))
  htk : PySem.W.takesIn K (.builtin "object.__class__") = some true
  hm : PySem.W.mroIn K C (.type "object") = some true
def tyP : P → Value
  | .non => .type "NoneType" | .bl _ => .type "bool" | .int _ => .type "int" | .str _ => .type "str"
  | .tup _ => .type "tuple" | .lst _ => .type "list" | .scr _ => .type "list" | .ins C _ _ => .ref C
def isInsP : P → Option Addr
  | .ins C _ _ => some C
  | _ => none
theorem tyX_of {X : Addr → Prop} {H : Hp} {v : V} (hc : ∀ C, isInsP p = some C → ClsI K C) (r : Rp K X H v p) : TyX K H v (tyP p) := by
  cases r with
  | non => exact .base .non
  | bl b => exact .base (.bl b)
  | int i => exact .base (.int i)
  | str s => exact .base (.str s)
  | tup h _ _ =>
    rcases h with h | ⟨o, h⟩
    · exact .base (.tup h)
    · exact .fTuple h
  | tupK h _ => obtain ⟨o, its, n, h1, h2, _⟩ := h; exact .kTuple h1 h2
  | lst h _ _ => exact .base (.lst h)
  | scr h _ _ =>
    rcases h with h | ⟨o, h⟩
    · exact .base (.lst h)
    · exact .base (.frz h)
  | scrK h _ => obtain ⟨o, its, n, h1, h2, _⟩ := h; exact .kList h1 h2
  | ins h _ _ _ =>
    obtain ⟨cl, ha, hn, htk, hm⟩ := hc _ rfl
    exact .base (.ins h cl ha hn htk hm)
theorem ep_isi {cv : V} {u : Value} {b : Bool} (h : EF K te Γ M p) (hv : ClsV cv u) (hc : ∀ C, isInsP p = some C → ClsI K C) (hk : PySem.W.kitOne K (tyP p) u = some b) : EP K (tCB (rIsi K) (tCons te (tCons (tC cv) tNil))) Γ M (.bl b) := fun X A σ H s Q q =>
  h X A σ H s _ fun A1 M1 v d H1 t1 s1 r ⟨e1, e2⟩ => by
    subst e1
    exact ⟨v, cv, tyP p, u, b, rfl, hv, tyX_of hc (s1.ce.fz e2 r), hk, q A1 _ _ _ H1 t1 s1 (.v (.bl b)) ⟨rfl, rfl⟩⟩
theorem ep_isiT {c1 c2 : V} {u1 u2 : Value} {b : Bool} (h : EF K te Γ M p) (hv1 : ClsV c1 u1) (hv2 : ClsV c2 u2) (hc : ∀ C, isInsP p = some C → ClsI K C) (hk : PySem.W.kitAny K (tyP p) [u1, u2] = some b) :
    EP K (tCB (rIsiT K) (tCons te (tCons (tTup (tCons (tC c1) (tCons (tC c2) tNil))) tNil))) Γ M (.bl b) := fun X A σ H s Q q =>
  h X A σ H s _ fun A1 M1 v d H1 t1 s1 r ⟨e1, e2⟩ => by
    subst e1
    refine ⟨by show 2 ≤ sizeLine; decide, fun T hT => ?_⟩
    have sm := same_new (o := .tup [c1, c2]) hT
    exact ⟨v, T, [c1, c2], tyP p, [u1, u2], b, rfl, upd_same, .cons hv1 (.cons hv2 .nil), tyX_of hc ((s1.ce.fz e2 r).same sm), hk, q A1 _ _ _ _ (t1.trans (.ofSame sm)) (s1.same sm) (.v (.bl b)) ⟨rfl, rfl⟩⟩
/-! ### fields -/
theorem zip_lookup {X : Addr → Prop} {H : Hp} {f : Str} {d : P} : ∀ {ks : List Str} {vs : List V} {ds : List P}, Rps K X H vs ds → (ks.zip ds).lookup f = some d → ∃ v, (ks.zip vs).lookup f = some v ∧ Rp K X H v d
  | [], _, _, _, h => by cases h
  | k :: ks, _, _, .nil, h => by cases h
  | k :: ks, v :: vs, e :: ds, .cons r t, h => by
    rw [List.zip_cons_cons, List.lookup_cons] at h ⊢
    cases q : (f == k) with
    | true =>
      rw [q] at h
      cases h
      exact ⟨v, rfl, r⟩
    | false =>
      rw [q] at h
      exact zip_lookup t h
theorem ep_fld {C : Addr} {ks : List Str} {f : Str} {d : P} (h : EP K te Γ M (.ins C ks ps)) (hc : Cls K C) (hn : NoAttr K C f) (hl : (ks.zip ps).lookup f = some d) : EP K (tFld K te f) Γ M d := fun X A σ H s Q q =>
  h X A σ H s _ fun A1 M1 v e H1 t1 s1 r ⟨e1, e2⟩ => by
    subst e1 e2
    have rr := r.toRp
    cases rr with
    | ins ho hx hlen rs =>
      rename_i a dx vs
      obtain ⟨w, ew, rw_⟩ := zip_lookup rs hl
      exact ⟨a, C, dx, _, w, rfl, ho, hc, hn, ew, q A1 _ w (.v d) H1 t1 s1 (.v rw_) ⟨rfl, rfl⟩⟩
end
end Z
set_option maxRecDepth 100000
set_option maxHeartbeats 4000000
/-! The calculus: any sequence walked, enumerate of any sequence, starred displays, chains, calls by name. -/
namespace PySem
open AutoSeq1 (wpAny_loadPart')
theorem meets_enumerate_new1B {v : Value} {o : Obj} {H : Heap → Prop} (B : Begins v o H) :
    Meets (Builtin.«enumerate.__new__» ⟨[.type "enumerate", v], []⟩) (fun _ R s => H s.heap ∧
      R (.ok (.ret (.ref (s.heap.push o).objs.size))) { s with heap := (s.heap.push o).push { cls := .type "enumerate", data := .fields #[.none, .bool false, .ref s.heap.objs.size, rawInt 0, .none, .none] } }) :=
  .of_wp fun prog w A R s h => by
    obtain ⟨hp, g, d, tk, os⟩ := s; obtain ⟨h1, h⟩ := h
    have hsub := sub_enumerate
    have q1 : ∀ {A' : Around} {E : Value → Shared → Prop} {Q : Value → Shared → Prop}, Q (.ref hp.objs.size) ⟨hp.push o, g, d, tk, os⟩ → wpAny (model prog w) A' (pyIter v) Q E ⟨hp, g, d, tk, os⟩ :=
      fun q => B.iter prog w _ _ ⟨hp, g, d, tk, os⟩ _ h1 q
    wp_walk using q1
    refine wpAny_stack_any fun st => wpAny_pure ?_
    split
    · rename_i c _ _ _ _ _
      cases (c == Value.type "enumerate")
      · wp_walk using q1
        exact ⟨_, rfl, h⟩
      · wp_walk using q1
        exact ⟨_, rfl, h⟩
    · wp_walk using q1
      exact ⟨_, rfl, h⟩
theorem call_enumerate_1B {prog : Program} {w : World} {A : Around} {E : Value → Shared → Prop} {s : Shared} {v : Value} {o : Obj} {H : Heap → Prop} {Q : Value → Shared → Prop} (B : Begins v o H) (h1 : H s.heap)
    (h : ∀ h', IsEnum h' (s.heap.objs.size + 1) s.heap.objs.size 0 .none → h'.get? s.heap.objs.size = some o → h'.objs.size = s.heap.objs.size + 2 →
      (∀ b o, s.heap.get? b = some o → h'.get? b = some o) → Q (.ref (s.heap.objs.size + 1)) { s with heap := h' }) :
    wpAny (model prog w) A (call (.type "enumerate") [v]) Q E s := by
  refine callType_new F.called_enumerate (by decide) (F.typeCall_enumerate_1 _) (F.newCall_enumerate_1 _) (fun obj => F.args_object_init_2 obj _) F.entry_enumerate_new
    (meets_enumerate_new1B B) ⟨h1, ?_⟩
  have hz : (s.heap.push o).objs.size = s.heap.objs.size + 1 := Heap.size_push ..
  show _ ∧ _
  rw [hz]
  have he : IsEnum ((s.heap.push o).push { cls := .type "enumerate", data := .fields #[.none, .bool false, .ref s.heap.objs.size, rawInt 0, .none, .none] }) (s.heap.objs.size + 1) s.heap.objs.size 0 .none := by
    have := Heap.get?_push_size (s.heap.push o) (o := { cls := .type "enumerate", data := .fields #[.none, .bool false, .ref s.heap.objs.size, rawInt 0, .none, .none] }) rfl
    rw [hz] at this; exact this
  refine ⟨⟨_, he, rfl⟩, h _ he (Heap.get?_push_of_some _ (Heap.get?_push_size _ B.free)) (by rw [Heap.size_push, hz]) fun b o x => Heap.get?_push_of_some _ (Heap.get?_push_of_some _ x)⟩
theorem wpAny_pyNext_enum_endT {prog : Program} {w : World} {A : Around} {E : Value → Shared → Prop} {s : Shared} {e it l : Addr} {i : Nat} {items : Array Value} {old : Value} {Q : Option Value → Shared → Prop} (hh : A.handled = none)
    (he : IsEnum s.heap e it i old) (hit : s.heap.IsTupleIter it l i) (hl : s.heap.IsTuple l items) (hx : items[i]? = none)
    (hQ : ∀ h', Heap.ExtBut it s.heap h' → Q none { s with heap := h' }) : wpAny (model prog w) A (pyNext (.ref e)) Q E s := by
  have hT : s.TypeIs (.ref e) "enumerate" := ⟨_, he, rfl⟩
  unfold pyNext
  refine wpAny_bind (wpAny_attempt (wpAny_callSpecial?_slot (name := Str.ofString "__next__") hT F.slot_enumerate_next
    (wpAny_call_entry F.slot_enumerate_next hT F.entry_enumerate_next ?_ (F.args_enumerate_next_1 _))))
  show wpAny _ _ (field (.ref e) 2 >>= _) _ _ _
  refine wpAny_bind (wpAny_field he rfl (x := .ref it) rfl ?_)
  refine wpAny_bind (wpAny_nextOf_tuple_end hh hit hl hx fun h' x he' hx' => ?_)
  obtain ⟨o, ho, hc⟩ := hx'
  refine wpAny_bind (wpAny_isInstance (T := "StopIteration") (b := true) ⟨o, ho, hc⟩ isSubtype_stop ?_)
  exact wpAny_pure (hQ _ he')
end PySem
namespace Z
open PySem PySem.Spec PyProof.Rows L2
/-! ### enumerate(tuple) -/
def IteT (K : PySem.W.Frag) (a : Addr) : It :=
  ⟨fun i H => ∃ (xs : List V) (x : V), SqT K H a xs ∧ xs[i]? = some x, fun i H v H' => ∃ T x, v = .ref T ∧ H T = none ∧ H' = upd H T (.tup [.int (i : Nat), x]) ∧ ∀ xs, SqT K H a xs → xs[i]? = some x, fun i H => ∃ xs : List V, SqT K H a xs ∧ xs.length ≤ i⟩
theorem turn_enumT {P : Program} {w : World} {K : PySem.W.Frag} {elts : List Expr} {kk : Nat} {tpos : Pos} (a e it : Addr) :
    Turn P w K (.Tuple elts kk tpos) (IteT K a) [e, it] e (fun i h => (∃ old, IsEnum h e it ((i : Nat) : Int) old) ∧ h.IsTupleIter it a i ∧ e ≠ it ∧ a ≠ it) where
  mem := by simp
  obj := fun i h st b hb => by
    obtain ⟨⟨old, he⟩, ⟨o, ho, hc, hd⟩, _⟩ := st
    have e' : b = e ∨ b = it := by simpa using hb
    rcases e' with z | z
    · rw [z]; exact ⟨_, he, fun v q => nomatch q⟩
    · rw [z]; exact ⟨o, ho, fun v q => by rw [hd] at q; cases q⟩
  keep := fun i h h' st k => let ⟨⟨old, he⟩, hi, hne⟩ := st; ⟨⟨old, k e (by simp) _ he⟩, hi.at fun o q => k it (by simp) o q, hne⟩
  item := by
    intro X hP hw hK hc i pins s σ H E I hf st hg
    subst hP hw hK
    obtain ⟨⟨old, he⟩, hit, hne, hai⟩ := st
    obtain ⟨xs, x, hq, hx⟩ := hg
    obtain ⟨its, rv, p, hz⟩ := I.tuple hq
    obtain ⟨u, hu, ru⟩ := rv.get hx
    have hel : e < s.heap.objs.size := Heap.lt_size he
    have hil : it < s.heap.objs.size := by obtain ⟨_, q, _⟩ := hit; exact Heap.lt_size q
    have ea : e ≠ a := fun z => by
      obtain ⟨o, ho, hc, _⟩ := p
      rw [← z, he] at ho
      cases ho
      exact absurd (Value.type.inj hc) (by decide)
    have hlt : i < its.toArray.size := by
      have h1 := (List.getElem?_eq_some_iff.mp hu).1
      simpa using h1
    refine wpAny_pyNext_enum_itemD (Draws.tuple (by have h0 := I.ok.hd hc; simpa [Around.in1] using h0) it a hai its.toArray) he ⟨hit, p⟩ hlt hne (by simp [hne, ea]) fun x' h' tk hpx ho hst' hT hsz hk => ?_
    have hx' : x' = u := by
      have h2 : its.toArray[i]? = some u := by simpa using hu
      exact Option.some.inj (hpx.symm.trans h2)
    subst hx'
    refine ⟨_, rfl, wpAny_letOwnedTupleGo_enum (s := { s with heap := h', toks := tk + 1 }) ho fun h'' he' sb => ?_⟩
    have hT2 : h''.get? s.heap.objs.size = some { cls := .type "tuple", data := .seq #[.int i tk, x'] } := (sb.2 _ (Nat.ne_of_gt hel)).trans hT
    have new : ObjOk X.prog X.w (upd H s.heap.objs.size (.tup [.int (i : Nat), x])) h'' s.heap.objs.size (.tup [.int (i : Nat), x]) :=
      ⟨by show 2 ≤ sizeLine; decide, [.int i tk, x'], .cons ⟨_, rfl⟩ (.cons ru .nil), ⟨_, hT2, rfl, _, rfl⟩⟩
    have I1 : Inv X pins σ (upd H s.heap.objs.size (.tup [.int (i : Nat), x])) { s with heap := h'', toks := tk + 1 } :=
      I.turnedNew (ch := [e, it]) (fun b ob hb q => (sb.2 b (fun z => hb (by simp [z]))).trans (hk b ob (fun z => hb (by simp [z])) (fun z => hb (by simp [z])) q)) hf (Nat.le_refl _) new
    refine ⟨.ref s.heap.objs.size, _, I1, rfl, ⟨_, x, rfl, I.hok.fresh (Nat.le_refl _), rfl, fun ys hy => ?_⟩, ⟨⟨x', ?_⟩, hst'.1.at fun o q => (sb.2 it (Ne.symm hne)).trans q, hne, hai⟩, fun b hb => ?_⟩
    · rw [I.tuple_inj hy hq]
      exact hx
    · have e1 : ((i + 1 : Nat) : Int) = (i : Int) + 1 := by omega
      rw [e1]; exact he'
    · have hb' : b < s.heap.objs.size := by
        have e' : b = e ∨ b = it := by simpa using hb
        rcases e' with z | z
        · rw [z]; exact hel
        · rw [z]; exact hil
      rw [upd_ne (Nat.ne_of_lt hb')]
      exact (hf b hb).1
  done := by
    intro X hP hw hK hc i pins s σ H E I hf st hg
    subst hP hw hK
    obtain ⟨⟨old, he⟩, hit, hne, hai⟩ := st
    obtain ⟨xs, hq, hx⟩ := hg
    obtain ⟨its, rv, p, hz⟩ := I.tuple hq
    obtain ⟨f0, f1, f2, f3, f4, f5⟩ := hf it (by simp)
    have hl := rv.length
    exact wpAny_pyNext_enum_endT (I.ok.hd hc) he hit p (by simp; omega) fun h' eb => ⟨rfl, I.turned (t' := s.toks) (fun b o hb q => eb b o hb q) f0 f1 f3 f4 f5⟩
  self := fun A i s Q E st h => let ⟨⟨_, he⟩, _⟩ := st; wpAny_pyIter_enum he h
/-! ### a for over any sequence -/
def iSeq (K : PySem.W.Frag) (tl : TE) : TI := fun σ H R => tl σ H fun x H1 => ∃ a, x = .ref a ∧ (((∃ xs, SqL K H1 a xs) ∧ R (Itl K a) H1) ∨ ((∃ xs, SqT K H1 a xs) ∧ R (Itt K a) H1))
theorem pi_seq {X : Cx} {tg l : Expr} {tl : TE} (hl : PE X l tl) : PI X tg l (iSeq X.K tl) := by
  refine ⟨fun pins s σ H R I h => ?_⟩
  refine thn (hl.run pins s σ H _ I h) fun v s1 ⟨x, H1, I1, r1, q1⟩ => ?_
  obtain ⟨a, e, q1⟩ := q1
  subst e
  cases r1
  rcases q1 with ⟨⟨xs, hq⟩, q⟩ | ⟨⟨xs, hq⟩, q⟩
  · obtain ⟨its, rv, p, hz⟩ := I1.list hq
    refine wpAny_pyIter_list p.isList ?_
    refine ⟨s1.heap.objs.size, [s1.heap.objs.size], _, _, H1, rfl, I1.kept (t' := s1.toks) fun b o e => Heap.get?_push_of_some _ e, turn_list a _, ⟨_, Heap.get?_push_size _ rfl, rfl, rfl⟩, fun b hb => ?_, q⟩
    have e : b = s1.heap.objs.size := by simpa using hb
    subst e
    exact I1.fpOk (Nat.le_refl _) (I1.hok.fresh (Nat.le_refl _))
  · obtain ⟨its, rv, p, hz⟩ := I1.tuple hq
    refine wpAny_pyIter_tuple (show s1.heap.IsTuple a its.toArray from p) ?_
    refine ⟨s1.heap.objs.size, [s1.heap.objs.size], _, _, H1, rfl, I1.kept (t' := s1.toks) fun b o e => Heap.get?_push_of_some _ e, turn_tuple a _, ⟨_, Heap.get?_push_size _ rfl, rfl, rfl⟩, fun b hb => ?_, q⟩
    have e : b = s1.heap.objs.size := by simpa using hb
    subst e
    exact I1.fpOk (Nat.le_refl _) (I1.hok.fresh (Nat.le_refl _))
def iEnumS (K : PySem.W.Frag) (ta : TA) : TI := fun σ H R => ta σ H fun vs H1 => ∃ a, vs = [.ref a] ∧ (((∃ xs, SqL K H1 a xs) ∧ R (Ite K a) H1) ∨ ((∃ xs, SqT K H1 a xs) ∧ R (IteT K a) H1))
theorem pi_enumS {X : Cx} {e : Expr} {ta : TA} {p pos tpos : Pos} {elts : List Expr} {kk : Nat} (hg : Gl X "enumerate") (hm : X.mg "enumerate" = none) (ha : PA X [e] ta) (hs : starEach [e] X.env = [(false, eval e X.env)] := by rfl) :
    PI X (.Tuple elts kk tpos) (.Call (.Name "enumerate" p) [e] [] pos) (iEnumS X.K ta) := by
  refine ⟨fun pins s σ H R I h => ?_⟩
  refine Call_ (ld_blt I hg hm boot_enumerate (PyProof.Rows.callWith_type1 (thn (ha.run pos pins s σ H _ I h) fun us s1 ⟨vs, H1, I1, r1, q1⟩ => ?_) hs rfl))
  obtain ⟨a, ex, q1⟩ := q1
  subst ex
  cases r1 with
  | cons r rr =>
    cases rr
    cases r
    have fp : ∀ b ∈ [s1.heap.objs.size + 1, s1.heap.objs.size], FpOk X pins H1 b := fun b hb => by
      have e' : b = s1.heap.objs.size + 1 ∨ b = s1.heap.objs.size := by simpa using hb
      have hle : s1.heap.objs.size ≤ b := by
        rcases e' with z | z
        · rw [z]; exact Nat.le_add_right _ _
        · rw [z]; exact Nat.le_refl _
      exact I1.fpOk hle (I1.hok.fresh hle)
    rcases q1 with ⟨⟨xs, hq⟩, q⟩ | ⟨⟨xs, hq⟩, q⟩
    · obtain ⟨its, rv, p', hz⟩ := I1.list hq
      refine call_enumerate_list p'.isList fun h' he hit hsz hk => wpAny_pyIter_enum he ?_
      have I2 : Inv X pins σ H1 { s1 with heap := h' } := I1.kept (t' := s1.toks) hk
      exact ⟨s1.heap.objs.size + 1, [s1.heap.objs.size + 1, s1.heap.objs.size], _, _, H1, rfl, I2, turn_enum a (s1.heap.objs.size + 1) s1.heap.objs.size, ⟨⟨.none, he⟩, hit, Nat.succ_ne_self _⟩, fp, q⟩
    · obtain ⟨its, rv, p', hz⟩ := I1.tuple hq
      refine call_enumerate_1B (begins_tuple a its.toArray) p' fun h' he hit hsz hk => wpAny_pyIter_enum he ?_
      have I2 : Inv X pins σ H1 { s1 with heap := h' } := I1.kept (t' := s1.toks) hk
      have hal : a < s1.heap.objs.size := by obtain ⟨o, ho, _⟩ := p'; exact Heap.lt_size ho
      exact ⟨s1.heap.objs.size + 1, [s1.heap.objs.size + 1, s1.heap.objs.size], _, _, H1, rfl, I2, turn_enumT a (s1.heap.objs.size + 1) s1.heap.objs.size, ⟨⟨.none, he⟩, ⟨_, hit, rfl, rfl⟩, Nat.succ_ne_self _, Nat.ne_of_lt hal⟩, fp, q⟩
end Z
set_option maxRecDepth 100000
set_option maxHeartbeats 4000000
/-! The calculus: enumerate, stars, chains, index, new instances, calls by keywords alone, promises that give cells. -/
namespace Z
open PySem PySem.Spec PyProof.Rows L2

/-! ### iterators -/
section
variable {K : PySem.W.Frag} {Γ : Env} {M : Mem} {Φ : Mem → List P → Prop} {ps : List P} {tl : TE} {ta : TA}
def enumP : Nat → List P → List P
  | _, [] => []
  | i, p :: ps => .tup [.int (i : Nat), p] :: enumP (i + 1) ps
theorem enumP_len : ∀ (i : Nat) (ps : List P), (enumP i ps).length = ps.length
  | _, [] => rfl
  | i, p :: ps => congrArg Nat.succ (enumP_len (i + 1) ps)
theorem enumP_get : ∀ {j i : Nat} {ps : List P} {p : P}, ps[i]? = some p → (enumP j ps)[i]? = some (.tup [.int ((j + i : Nat) : Int), p])
  | j, 0, q :: ps, p, h => by
    simp at h
    subst h
    rfl
  | j, i + 1, q :: ps, p, h => by
    have h2 := enumP_get (j := j + 1) (i := i) (ps := ps) (p := p) (by simpa using h)
    rw [show j + 1 + i = j + (i + 1) by omega] at h2
    simpa [enumP] using h2
theorem wk_pair {X : Addr → Prop} {A : List Addr} {H : Hp} {J : It} {xs : List V} {G : Hp → Prop} (w : Walk J xs.length G (YPair (fun i => some (.int (i : Nat))) (fun i => xs[i]?))) (h : ∀ X' A' H', TrX X A H X' A' H' → G H') (r : Rps K (XA X A) H xs ps) : Wk K X A H J (enumP 0 ps) :=
  ⟨_, _, by rw [enumP_len, ← Rps.length r]; exact w, fun X' A' H1 t => ⟨h X' A' H1 t, fun hx i x H2 hi y => by
    obtain ⟨T, a, b, e1, e2, e3, e4, e5⟩ := y
    subst e1 e3
    cases e4
    obtain ⟨d, f1, r1⟩ := Rps.getV r e5
    have f2 := enumP_get (j := 0) f1
    rw [Nat.zero_add] at f2
    exact ⟨same_new e2, _, f2, Rp.newT hx e2 (.cons (.int _) (.cons (t.rp r1) .nil))⟩⟩⟩
theorem walk_enumT {a : Addr} {xs : List V} : Walk (IteT K a) xs.length (fun H => SqT K H a xs) (YPair (fun i => some (.int (i : Nat))) (fun i => xs[i]?)) := by
  refine ⟨fun i _ hi q => ⟨xs, xs[i], q, by simp [hi]⟩, fun _ q => ⟨xs, q, Nat.le_refl _⟩, fun i H v H' _ q y => ?_⟩
  obtain ⟨T, x, h1, h2, h3, h4⟩ := y
  exact ⟨T, .int (i : Nat), x, h1, h2, h3, rfl, h4 xs q⟩
theorem seq_of {X : Addr → Prop} {A : List Addr} {H : Hp} {v : V} {p : P} (h : itemsP p = some ps) (r : Rp K (XA X A) H v p) : ∃ a xs, v = .ref a ∧ ((∀ X' A' H', TrX X A H X' A' H' → SqL K H' a xs) ∨ (∀ X' A' H', TrX X A H X' A' H' → SqT K H' a xs)) ∧ Rps K (XA X A) H xs ps := by
  cases r with
  | tup hq n rr => cases h; exact ⟨_, _, rfl, .inr fun X' A' H' t => .inl (Rd.keep hq fun o e => t.keep _ o e n), rr⟩
  | tupK hq rr => cases h; exact ⟨_, _, rfl, .inr fun X' A' H' t => .inr hq, rr⟩
  | lst hq n rr => cases h; exact ⟨_, _, rfl, .inl fun X' A' H' t => .inl (.inl (t.keep _ _ hq n)), rr⟩
  | scr hq n rr => cases h; exact ⟨_, _, rfl, .inl fun X' A' H' t => .inl (Rd.keep hq fun o e => t.keep _ o e n), rr⟩
  | scrK hq rr => cases h; exact ⟨_, _, rfl, .inl fun X' A' H' t => .inr hq, rr⟩
  | _ => cases h
theorem ei_seq (h : EV K tl Γ M fun M' d => ∃ p ps, d = .v p ∧ itemsP p = some ps ∧ Φ M' ps) : EI K (iSeq K tl) Γ M Φ := fun X A σ H s R q =>
  h X A σ H s _ fun A' M' v d H' t s' r ⟨p, ps, e, hp, f⟩ => by
    subst e
    obtain ⟨a, xs, e, hq, rs⟩ := seq_of hp r.toRp
    subst e
    rcases hq with hq | hq
    · exact ⟨a, rfl, .inl ⟨⟨xs, hq X A' H' .refl⟩, q A' M' ps _ H' t s' (wk_list hq rs) f⟩⟩
    · exact ⟨a, rfl, .inr ⟨⟨xs, hq X A' H' .refl⟩, q A' M' ps _ H' t s' (wk_tup hq rs) f⟩⟩
theorem eip_seq {p : P} (h : EP K tl Γ M p) (hp : itemsP p = some ps) : EIp K (iSeq K tl) Γ M ps := ei_seq (ev_ep h ⟨p, ps, rfl, hp, rfl, rfl⟩)
theorem ei_enum (h : EA K ta Γ M fun M' ds => ∃ p ps, ds = [.v p] ∧ itemsP p = some ps ∧ Φ M' (enumP 0 ps)) : EI K (iEnumS K ta) Γ M Φ := fun X A σ H s R q =>
  h X A σ H s _ fun A' M' vs ds H' t s' r ⟨p, ps, e, hp, f⟩ => by
    subst e
    cases r with
    | cons r1 r2 =>
      cases r2
      obtain ⟨a, xs, e, hq, rs⟩ := seq_of hp r1.toRp
      subst e
      rcases hq with hq | hq
      · exact ⟨a, rfl, .inl ⟨⟨xs, hq X A' H' .refl⟩, q A' M' _ _ H' t s' (wk_pair walk_enum hq rs) f⟩⟩
      · exact ⟨a, rfl, .inr ⟨⟨xs, hq X A' H' .refl⟩, q A' M' _ _ H' t s' (wk_pair walk_enumT hq rs) f⟩⟩
theorem eip_enum {p : P} (h : EPs K ta Γ M [p]) (hp : itemsP p = some ps) : EIp K (iEnumS K ta) Γ M (enumP 0 ps) := ei_enum (ea_ep h ⟨p, ps, rfl, hp, rfl, rfl⟩)
end

/-! ### stars, chains, methods of data -/
section
variable {K : PySem.W.Frag} {Γ : Env} {M : Mem} {Φs : Mem → List D → Prop} {ps qs es : List P} {te ta tb tc : TE} {t tar : TA} {p q z : P} {b c : Bool}
theorem ea_star (h : EV K te Γ M fun M1 d => ∃ p ps, d = .v p ∧ itemsP p = some ps ∧ EA K t Γ M1 fun M2 ds => Φs M2 (ps.map .v ++ ds)) : EA K (StX.tStar K te t) Γ M Φs := fun X A σ H s Q q =>
  h X A σ H s _ fun A1 M1 v1 d1 H1 t1 s1 r1 ⟨p, ps, e1, hp, h2⟩ => by
    subst e1
    obtain ⟨a, xs, e, hq, rs⟩ := items_sq hp r1.toRp
    subst e
    exact ⟨a, xs, rfl, hq.elim .inr .inl, h2 X A1 σ H1 s1 _ fun A2 M2 vs ds H2 t2 s2 r2 f => q A2 M2 _ _ H2 (t1.trans t2) s2 ((RDs.ofRps (t2.rds (.ofRps rs)).toRps).append r2) f⟩
theorem eps_star (h : EP K te Γ M p) (hp : itemsP p = some ps) (ht : EPs K t Γ M qs) : EPs K (StX.tStar K te t) Γ M (ps ++ qs) :=
  ea_star (ev_ep h ⟨p, ps, rfl, hp, ea_ep ht ⟨rfl, by rw [List.map_append]⟩⟩)
theorem ep_chain {r r' : R2} (ha : EP K ta Γ M p) (hb : EP K tb Γ M q) (h1 : RV K r p q (.bl b)) (hc : b = true → EP K tc Γ M z) (h2 : b = true → RV K r' q z (.bl c)) : EP K (tChain r r' ta tb tc) Γ M (.bl (b && c)) := fun X A σ H s Q k =>
  ha X A σ H s _ fun A1 M1 v1 d1 H1 t1 s1 r1 ⟨e1, e2⟩ => by
    subst e1 e2
    refine hb X A1 σ H1 s1 _ fun A2 M2 v2 d2 H2 t2 s2 r2 ⟨e1, e2⟩ => ?_
    subst e1 e2
    refine h1 (XA X A2) H2 v1 v2 s2.ce.xa (t2.rp r1.toRp) r2.toRp _ fun v H' sm rz => ?_
    cases rz
    refine ⟨b, rfl, ?_⟩
    have s3 := s2.same sm
    cases b with
    | false => exact k A2 _ _ _ H' ((t1.trans t2).trans (.ofSame sm)) s3 (.v (.bl false)) ⟨rfl, rfl⟩
    | true =>
      rw [if_pos rfl]
      refine hc rfl X A2 σ H' s3 _ fun A3 M3 v3 d3 H3 t3 s4 r3 ⟨e1, e2⟩ => ?_
      subst e1 e2
      exact h2 rfl (XA X A3) H3 v2 v3 s4.ce.xa (t3.rp (r2.toRp.same sm)) r3.toRp Q fun v H4 sm2 rz => k A3 _ v _ H4 (((t1.trans t2).trans (.ofSame sm)).trans (t3.trans (.ofSame sm2))) (s4.same sm2) (.v rz) ⟨rfl, rfl⟩
/-- a method of data -/
def MD (K : PySem.W.Frag) (r : V → List V → Hp → VK → Prop) (p : P) (es : List P) (z : P) : Prop := ∀ (X : Addr → Prop) (H : Hp) (x : V) (vs : List V), (∀ a, X a → ∃ o, H a = some o) → Rp K X H x p → Rps K X H vs es → ∀ Q : VK, (∀ v H', Same H H' → Rp K X H' v z → Q v H') → r x vs H Q
def tyB : String → P → Bool
  | "list", .lst _ => true | "list", .scr _ => true | "str", .str _ => true | "int", .int _ => true | _, _ => false
theorem tyB_ok {T : String} {X : Addr → Prop} {H : Hp} {v : V} (h : tyB T p = true) (r : Rp K X H v p) : tyV K T v H := by
  unfold tyB at h
  split at h
  · cases r with
    | lst hq n rr => exact .inl ⟨rfl, _, .inl (.inl hq)⟩
  · cases r with
    | scr hq n rr => exact .inl ⟨rfl, _, .inl hq⟩
    | scrK hq rr => exact .inl ⟨rfl, _, .inr hq⟩
  · cases r; rfl
  · cases r; rfl
  · cases h
theorem ep_bmV {T : String} {r : V → List V → Hp → VK → Prop} (ha : EP K ta Γ M p) (ht : tyB T p = true) (hb : EPs K tar Γ M es) (hr : MD K r p es z) : EP K (tBM K T r ta tar) Γ M z := fun X A σ H s Q k =>
  ha X A σ H s _ fun A1 M1 v1 d1 H1 t1 s1 r1 ⟨e1, e2⟩ => by
    subst e1 e2
    refine ⟨tyB_ok ht r1.toRp, hb X A1 σ H1 s1 _ fun A2 M2 v2 d2 H2 t2 s2 r2 ⟨e1, e2⟩ => ?_⟩
    subst e1 e2
    exact hr (XA X A2) H2 v1 v2 s2.ce.xa (t2.rp r1.toRp) r2.toRps Q fun v H' sm rz => k A2 _ v (.v z) H' ((t1.trans t2).trans (.ofSame sm)) (s2.same sm) (.v rz) ⟨rfl, rfl⟩
theorem ep_bmV0 {T : String} {r : V → List V → Hp → VK → Prop} (ha : EP K ta Γ M p) (ht : tyB T p = true) (hr : MD K r p [] z) : EP K (tBM0 K T r ta) Γ M z := fun X A σ H s Q k =>
  ha X A σ H s _ fun A1 M1 v1 d1 H1 t1 s1 r1 ⟨e1, e2⟩ => by
    subst e1 e2
    exact ⟨tyB_ok ht r1.toRp, hr (XA X A1) H1 v1 [] s1.ce.xa r1.toRp .nil Q fun v H' sm rz => k A1 _ v (.v z) H' (t1.trans (.ofSame sm)) (s1.same sm) (.v rz) ⟨rfl, rfl⟩⟩
def idxP (p : P) : List P → Option Nat
  | [] => none
  | q :: qs => if eqV (toV q) (toV p) = true then some 0 else (idxP p qs).map (· + 1)
theorem idxP_ok : ∀ {qs : List P} {j : Nat}, idxP p qs = some j → ∃ z, (qs.map toV)[j]? = some z ∧ eqV z (toV p) = true ∧ ∀ (m : Nat) (z' : V), m < j → (qs.map toV)[m]? = some z' → eqV z' (toV p) = false
  | [], j, h => by cases h
  | q :: qs, j, h => by
    unfold idxP at h
    by_cases e : eqV (toV q) (toV p) = true
    · rw [if_pos e] at h
      cases h
      exact ⟨_, rfl, e, fun m z' hm => absurd hm (Nat.not_lt_zero _)⟩
    · rw [if_neg e] at h
      cases e2 : idxP p qs with
      | none => rw [e2] at h; cases h
      | some i =>
        rw [e2] at h
        cases h
        obtain ⟨z, h1, h2, h3⟩ := idxP_ok e2
        refine ⟨z, by simpa using h1, h2, fun m z' hm hz => ?_⟩
        cases m with
        | zero =>
          simp at hz
          subst hz
          exact Bool.eq_false_iff.mpr e
        | succ m => exact h3 m z' (Nat.lt_of_succ_lt_succ hm) (by simpa using hz)
theorem md_index {j : Nat} (h1 : flat p = true) (h2 : ps.all flat = true) (h : idxP p ps = some j) : MD K (rIndex K) (.lst ps) [p] (.int (j : Nat)) := fun X H x vs hx r1 r2 Q k => by
  obtain ⟨a, xs, e, hq, n, rr⟩ := r1.lstOf
  subst e
  cases r2 with
  | cons r3 r4 =>
    cases r4
    rw [flat_toV h1 r3]
    rw [flats_toV h2 rr] at hq
    obtain ⟨z, e1, e2, e3⟩ := idxP_ok h
    exact ⟨a, _, _, j, z, rfl, rfl, .inl (.inl hq), flat_flatV h1, flats_flatV h2, e1, e2, e3, k _ H (fun _ _ e => e) (.int _)⟩
end

/-! ### a for unrolled -/
section
variable {K : PySem.W.Frag} {n : Nat} {wi : TI} {g : TG} {tb : TS} {Γ : Env} {M : Mem} {E : DE}
def ForU (K : PySem.W.Frag) (n : Nat) (g : TG) (tb : TS) (E : DE) : List P → Env → Mem → Prop
  | [], Γ, M => E.nx Γ M
  | p :: ps, Γ, M => GV K g p Γ M fun Γ2 => SV K n tb Γ2 M { nx := NI K n (ForU K n g tb E ps), ct := NI K n (ForU K n g tb E ps), bk := E.nx, rt := E.rt }
theorem forU_nil (h : E.nx Γ M) : ForU K n g tb E [] Γ M := h
theorem forU_cons {p : P} {ps : List P} (h : GV K g p Γ M fun Γ2 => SV K n tb Γ2 M { nx := NI K n (ForU K n g tb E ps), ct := NI K n (ForU K n g tb E ps), bk := E.nx, rt := E.rt }) : ForU K n g tb E (p :: ps) Γ M := h
theorem sv_forU (hi : EI K wi Γ M fun M0 items => ForU K M0.length g tb E items Γ M0) : SV K n (tFor wi g tb) Γ M E := by
  refine sv_for fun X A σ H s R q => hi X A σ H s R fun A' M' its J H' t s' wk f => q A' M' its J H' t s' wk ?_
  refine ⟨fun i Γ1 M1 => ForU K M'.length g tb E (its.drop i) Γ1 M1, f, fun i p Γ1 M1 e h => ?_, fun Γ1 M1 h => ?_⟩
  · have e2 : its.drop i = p :: its.drop (i + 1) := by
      rw [List.drop_eq_getElem?_toList_append, e]
      rfl
    have h2 : ForU K M'.length g tb E (its.drop i) Γ1 M1 := h
    rw [e2] at h2
    exact h2
  · have h2 : ForU K M'.length g tb E (its.drop its.length) Γ1 M1 := h
    rw [List.drop_length] at h2
    exact h2
end

/-! ### a def called by keywords alone -/
section
variable {X : Cx} {CX : CXT} {k n : Nat} {f : Addr} {fd : FuncData} {ps ks : List Str} {sp : Sp} {E : XK} {x : Str} {p pos : Pos} {kws : List Keyword} {tk : TA} {g : List Value → List Value → List Value} {gV : List V → List V → List V}
theorem pe_callN0 (F : FnOk X.prog X.w X.K X.mg X.base CX k f fd ps sp) (hr : Room k X.A) (hg : Gl X x) (hm : X.mg x = some (.ref f)) (hk : PySem.W.keepIn X.K (.ref f) = true) (hb : KBn X.K fd ps 0 ks g gV) (hx : Passes CX X E)
    (hkw : PK X kws tk) (hall : (backToKw pos (keywordEach kws X.env)).all (·.1.isSome) = true := by rfl) (hks : (backToKw pos (keywordEach kws X.env)).filterMap (·.1) = ks := by rfl)
    (hdb : (x == ("__debug__" : Str)) = false := by decide)
    (hpl : ((backTo pos (starEach [] X.env)).any (·.1) || (backToKw pos (keywordEach kws X.env)).any (·.1.isNone)) = false := by rfl) :
    PE X (.Call (.Name x p) [] kws pos) (tCallN 0 ks.length sp gV E tNil tk) := by
  refine ⟨fun pins s σ H Q I h => ?_⟩
  refine wpAny_Call_Name_kw (ld_glob I hg hm ?_ hdb)
  refine PySem.W.callWith_KW0 (h₀ := X.base) I.ok.mod.kin hk hall ?_ hpl
  refine thn (hkw.run pos pins s σ H _ I h) fun ws s2 ⟨zs, H2, I2, rz, l1, l2, q2⟩ => ⟨I2.kIn, ?_⟩
  rw [hks]
  exact run_fnN (us := []) (vs := []) F hr hb hx I2 .nil rz rfl l2 q2
end
/-- a def without defaults: how keywords are bound -/
theorem kbN {K : PySem.W.Frag} {x qual : Str} {params : Arguments} {body : List Stmt} {scope : Scope} {f : Addr} {fd : FuncData} {ps : List Str} (F : FunD K x qual params body scope [] [] f fd) (n : Nat) (ks : List Str) (ix : List Nat)
    (h : ∀ (kV doc pm : Value) (an : Option Addr) (cdv ct : Value) (us ws : List Value), us.length = n → ws.length = ks.length → bindArgs (PySem.W.fnOf x qual params body scope .none kV doc pm an cdv ct) ⟨us, ks.zip ws⟩ = pure (ps.zip (perm ix (us ++ ws)))) :
    KBn K fd ps n ks (fun us ws => perm ix (us ++ ws)) (fun vs zs => perm ix (vs ++ zs)) := by
  obtain ⟨oc, od, dV, kV, doc, pm, an, cdv, ct, osl, rfl, lk, hcd, hD, hK⟩ := F.ex
  rcases hD with ⟨_, rfl⟩ | ⟨e, _⟩
  · refine ⟨fun s us ws X l1 l2 => .of_eq (h kV doc pm an cdv ct us ws l1 l2), fun r1 r2 => Vals.perm (r1.append r2) ix⟩
  · exact absurd rfl e
end Z
set_option maxRecDepth 100000
set_option maxHeartbeats 4000000
/-! The calculus: new instances, attributes set; promises that give cells. -/
namespace Z
open PySem PySem.Spec PyProof.Rows L2

theorem rps_nil {K : PySem.W.Frag} {X : Addr → Prop} {H : Hp} : Rps K X H [] [] := .nil
/-- what __init__ promises: the instance's attributes ks are the data res x -/
def MF (K : PySem.W.Frag) (C : Addr) {α : Type} (args : α → List P) (pre : α → Prop) (ks : List Str) (res : α → List P) : Sp := fun vs H Q _ =>
  ∃ (X : Addr → Prop) (a dx : Addr) (vs' : List V) (x : α), vs = .ref a :: vs' ∧ ¬ X a ∧ H a = some (.ins C dx []) ∧ (∀ b, X b → ∃ o, H b = some o) ∧ Rps K (X1 X a) H vs' (args x) ∧ pre x ∧
    ∀ H' dx' ws, (∀ b o, H b = some o → b ≠ a → H' b = some o) → H' a = some (.ins C dx' (ks.zip ws)) → ks.length = ws.length → Rps K (X1 X a) H' ws (res x) → Q .non H'
section
variable {K : PySem.W.Frag} {C : Addr} {α : Type} {args : α → List P} {pre : α → Prop} {ks : List Str} {res : α → List P} {Γ : Env} {M : Mem} {E : XK} {t tk : TA} {ps qs : List P}
theorem made {X : Addr → Prop} {A : List Addr} {σ : L2.St} {H : Hp} {p dx : Addr} {vs : List V} {x : α} {Q : VK} (s : St K X A M Γ σ H) (h1 : H p = none) (h2 : H dx = none) (h3 : dx ≠ p) (r : Rps K (XA X A) H vs (args x)) (hp : pre x)
    (k : ∀ v H', Tr A H A H' → St K X A M Γ σ H' → RD K X A H' v (.v (.ins C ks (res x))) → Q v H') : MF K C args pre ks res (.ref p :: vs) (upd (upd H dx (.own p)) p (.ins C dx [])) (fun v H2 => v = .non ∧ Q (.ref p) H2) E := by
  have hx : ¬ XA X A p := fun z => by
    obtain ⟨o, e⟩ := s.ce.xa p z
    rw [h1] at e
    cases e
  have sm1 : Same H (upd H dx (.own p)) := same_new h2
  have hp2 : (upd H dx (.own p)) p = none := by rw [upd_ne (Ne.symm h3)]; exact h1
  have sm2 : Same H (upd (upd H dx (.own p)) p (.ins C dx [])) := fun a o e => same_new hp2 a o (sm1 a o e)
  have r2 : Rps K (X1 (XA X A) p) (upd (upd H dx (.own p)) p (.ins C dx [])) vs (args x) := r.mono (fun a o e n => sm2 a o e) fun a o e n z => by
    rcases z with z | z
    · exact n z
    · rw [show a = p from z] at e
      rw [h1] at e
      cases e
  refine ⟨XA X A, p, dx, vs, x, rfl, hx, upd_same, fun b hb => ?_, r2, hp, fun H' dx' ws hk he hl rw' => ⟨rfl, ?_⟩⟩
  · obtain ⟨o, e⟩ := s.ce.xa b hb
    exact ⟨o, sm2 b o e⟩
  · have sm : Same H H' := fun a o e => hk a o (sm2 a o e) fun z => by
      rw [z] at e
      rw [h1] at e
      cases e
    exact k _ H' (.ofSame sm) (s.same sm) (.v (.ins he hx hl (rw'.less fun a z => .inl z)))
theorem ep_make (h : EPs K t Γ M ps) (x : α) (ex : ps = args x) (hp : pre x) : EP K (tMake C (MF K C args pre ks res) [] E t) Γ M (.ins C ks (res x)) := fun X A σ H s Q q =>
  h X A σ H s _ fun A1 M1 vs ds H1 t1 s1 r ⟨e1, e2⟩ => by
    subst e1 e2 ex
    intro p dx h1 h2 h3
    rw [List.append_nil]
    exact made s1 h1 h2 h3 r.toRps hp fun v H' t2 s2 rv => q A1 _ v _ H' (t1.trans t2) s2 rv ⟨rfl, rfl⟩
theorem perm_succ {β : Type} (r : List Nat) (v : β) (vs : List β) : perm (r.map (· + 1)) (v :: vs) = perm r vs := by
  unfold perm
  rw [List.filterMap_map]
  rfl
theorem perm_zero {β : Type} (r : List Nat) (v : β) (vs : List β) : perm (0 :: r.map (· + 1)) (v :: vs) = v :: perm r vs := by
  rw [← perm_succ r v vs]
  rfl
theorem ep_makeK {m : Nat} {ix : List Nat} (hk : EPs K tk Γ M qs) (l2 : qs.length = m) (x : α) (ex : perm ix qs = args x) (hp : pre x) :
    EP K (tMakeK C 0 m (MF K C args pre ks res) (fun vs zs => perm (0 :: ix.map (· + 1)) (vs ++ zs)) E tNil tk) Γ M (.ins C ks (res x)) := fun X A σ H s Q q => by
  refine hk X A σ H s _ fun A1 M1 zs ds H1 t1 s1 r ⟨e1, e2⟩ => ?_
  subst e1 e2
  have r4 := r.toRps
  refine ⟨rfl, by rw [Rps.length r4, l2], fun p dx h1 h2 h3 => ?_⟩
  have e : perm (0 :: ix.map (· + 1)) ([V.ref p] ++ zs) = .ref p :: perm ix zs := perm_zero ix _ _
  have r5 : Rps K (XA X A1) H1 (perm ix zs) (args x) := by rw [← ex]; exact r4.perm ix
  show MF K C args pre ks res (perm (0 :: ix.map (· + 1)) ([V.ref p] ++ zs)) _ _ _
  rw [e]
  exact made s1 h1 h2 h3 r5 hp fun v H' t2 s2 rv => q A1 _ v _ H' (t1.trans t2) s2 rv ⟨rfl, rfl⟩
theorem putF_new {f : Str} {y : V} : ∀ {ks : List Str} {vs : List V}, f ∉ ks → ks.length = vs.length → putF f y (ks.zip vs) = (ks ++ [f]).zip (vs ++ [y])
  | [], [], _, _ => rfl
  | k :: ks, v :: vs, h, hl => by
    have h1 : ¬ k = f := fun z => h (z ▸ List.mem_cons_self ..)
    have ih := putF_new (f := f) (y := y) (ks := ks) (vs := vs) (fun z => h (List.mem_cons_of_mem _ z)) (by simpa using hl)
    show putF f y ((k, v) :: ks.zip vs) = _
    rw [putF, if_neg h1, ih]
    rfl
  | [], _ :: _, _, hl => by simp at hl
  | _ :: _, [], _, hl => by simp at hl
end
section
variable {K : PySem.W.Frag} {n : Nat} {Γ : Env} {M : Mem} {E : DE} {ta tv : TE} {f : Str}
/-- self.f = e, f a new attribute -/
theorem sv_fldN (h : EV K tv Γ M fun M1 d => EV K ta Γ M1 fun M2 e => ∃ k C ks ds, e = .c k ∧ M2[k]? = some (.o C ks ds) ∧ Cls K C ∧ NoAttr K C f ∧ ks.length < 1000 ∧ f ∉ ks ∧ E.nx Γ (M2.set k (.o C (ks ++ [f]) (ds ++ [d])))) : SV K n (sFld K ta tv f) Γ M E := fun X A0 H0 l A σ H Dd tr s z =>
  h X A σ H s _ fun A1 M1 y d H1 t1 s1 ry h2 => h2 X A1 σ H1 s1 _ fun A2 M2 x e H2 t2 s2 rx ⟨k, C, ks, ds, e1, em, hc, hn, hl, hf, hE⟩ => by
    subst e1
    cases rx with
    | c ek =>
      rename_i a
      obtain ⟨dx, vs, hx, hlen, rv⟩ := s2.ce.at_ k a _ ek em
      refine ⟨a, C, dx, ks.zip vs, rfl, hx, hc, hn, by rw [List.length_zip]; omega, ?_⟩
      rw [putF_new hf hlen]
      have tp : Tr A2 H2 A2 (upd H2 a (.ins C dx ((ks ++ [f]).zip (vs ++ [y])))) := ⟨⟨[], by simp, by simp⟩, fun b u q n => by
        rw [upd_ne (show b ≠ a from fun z => n (by rw [z]; exact List.mem_of_getElem? ek))]
        exact q, fun b u q => by
        by_cases h : b = a
        · rw [h]; exact ⟨_, upd_same⟩
        · rw [upd_ne h]; exact ⟨u, q⟩⟩
      obtain ⟨t3, s3⟩ := s2.put (c := .o C (ks ++ [f]) (ds ++ [d])) ek ⟨dx, vs ++ [y], upd_same, by simp [hlen], tp.rds (rv.append (.cons (t2.rd ry) .nil))⟩
      exact z.nx A2 _ Γ σ _ (((tr.trans t1).trans t2).trans t3) s3 hE
end
section
variable {K : PySem.W.Frag} {C : Addr} {α : Type} {args : α → List P} {pre : α → Prop} {ks : List Str} {res : α → List P} {t : TS} {N : List Str}
/-- __init__ keeps such a promise, by its body -/
theorem mf_body {x : α} (h : SV K 1 t (startE N.length (.c 0 :: (args x).map .v)) [.o C [] []] { nx := fun _ M => ∃ M', M = .o C ks ((res x).map .v) :: M', rt := fun _ _ => False }) {X : Addr → Prop} {a dx : Addr} {vs : List V} {H : Hp} {Q : VK}
    (ha : H a = some (.ins C dx [])) (hX : ¬ X a) (hx : ∀ b, X b → ∃ o, H b = some o) (r : Rps K (X1 X a) H vs (args x))
    (q : ∀ H' dx' ws, (∀ b o, H b = some o → b ≠ a → H' b = some o) → H' a = some (.ins C dx' (ks.zip ws)) → ks.length = ws.length → Rps K (X1 X a) H' ws (res x) → Q .non H') :
    t { nx := fun _ H' => Q .non H', rt := Q } (L2.start N (.ref a :: vs)) H := by
  have c0 : Cells K X [a] [.o C [] []] H := ⟨List.nodup_cons.mpr ⟨by simp, List.nodup_nil⟩, rfl, fun k b c e1 e2 => by
    have hk : k = 0 := by
      have := (List.getElem?_eq_some_iff.mp e1).1
      rw [List.length_singleton] at this
      omega
    subst hk
    cases e1
    cases e2
    exact ⟨dx, [], ha, rfl, .nil⟩, hx, fun b hb h => hX (by rw [← List.mem_singleton.mp h]; exact hb)⟩
  have xe : ∀ b, XA X [a] b ↔ X1 X a b := fun b => by
    constructor
    · rintro (z | z)
      · exact .inl z
      · exact .inr (List.mem_singleton.mp z)
    · rintro (z | z)
      · exact .inl z
      · exact .inr (List.mem_singleton.mpr z)
  have r0 : RDs K X [a] H (.ref a :: vs) (.c 0 :: (args x).map .v) := .cons (.c rfl) (.ofRps (r.less fun b z => (xe b).mp z))
  refine h X [a] H rfl [a] (L2.start N (.ref a :: vs)) H _ .refl ⟨c0, sl_start r0⟩ ⟨fun A M Γ σ H' t1 s1 ⟨M', eM⟩ => ?_, fun A M Γ σ H' v d t1 s1 r1 e => e.elim, fun A M Γ σ H' t1 s1 e => e.elim, fun A M Γ σ H' t1 s1 e => e.elim⟩
  obtain ⟨B, eA, fB⟩ := t1.ext
  subst eA eM
  obtain ⟨dx', ws, e1, e2, e3⟩ := s1.ce.at_ 0 a _ rfl rfl
  refine q H' dx' ws (fun b o e n => t1.keep b o e fun z => n (List.mem_singleton.mp z)) e1 e2 (e3.toRps.less fun b z => ?_)
  rcases z with z | z
  · exact .inl z
  · exact .inr (List.mem_append_left _ (List.mem_singleton.mpr z))
end

/-! ### promises that give cells -/
def shD (n : Nat) : D → D
  | .v p => .v p
  | .c k => .c (n + k)
def shC (n : Nat) : MC → MC
  | .l ds => .l (ds.map (shD n))
  | .o C ks ds => .o C ks (ds.map (shD n))
/-- data in; out comes a value over new cells -/
def PC (K : PySem.W.Frag) {α : Type} (args : α → List P) (pre : α → Prop) (res : α → List MC → D → Prop) : Sp := fun vs H Q _ =>
  ∃ (X : Addr → Prop) (x : α), (∀ a, X a → ∃ o, H a = some o) ∧ Rps K X H vs (args x) ∧ pre x ∧ ∀ v B cs d H', Same H H' → (∀ b ∈ B, H b = none) → Cells K X B cs H' → RD K X B H' v d → res x cs d → Q v H'
section
variable {K : PySem.W.Frag} {α : Type} {args : α → List P} {pre : α → Prop} {res : α → List MC → D → Prop} {Γ : Env} {M : Mem} {Φ : Mem → D → Prop} {t tk : TA} {E : XK} {ps qs : List P}
theorem RD.sh {X : Addr → Prop} {A B : List Addr} {H : Hp} {v : V} {d : D} (h : RD K (XA X A) B H v d) : RD K X (A ++ B) H v (shD A.length d) := by
  cases h with
  | v r =>
    refine .v (r.less fun a z => ?_)
    rcases z with z | z
    · exact .inl (.inl z)
    · rcases List.mem_append.mp z with z | z
      · exact .inl (.inr z)
      · exact .inr z
  | c e =>
    refine .c ?_
    rw [List.getElem?_append_right (Nat.le_add_right _ _), Nat.add_sub_cancel_left]
    exact e
theorem RDs.sh {X : Addr → Prop} {A B : List Addr} {H : Hp} : ∀ {v : List V} {d : List D}, RDs K (XA X A) B H v d → RDs K X (A ++ B) H v (d.map (shD A.length))
  | _, _, .nil => .nil
  | _, _, .cons h r => .cons h.sh (RDs.sh r)
theorem more_cells {X : Addr → Prop} {A B : List Addr} {H H' : Hp} {σ : L2.St} {cs : List MC} (s : St K X A M Γ σ H) (sm : Same H H') (hb : ∀ b ∈ B, H b = none) (c : Cells K (XA X A) B cs H') :
    Tr A H (A ++ B) H' ∧ St K X (A ++ B) (M ++ cs.map (shC A.length)) Γ σ H' := by
  have t : Tr A H (A ++ B) H' := ⟨⟨B, rfl, hb⟩, fun a o e _ => sm a o e, fun a o e => ⟨o, sm a o e⟩⟩
  refine ⟨t, ⟨List.nodup_append.mpr ⟨s.ce.nd, c.nd, fun a ha b hb' e => c.dj a (.inr ha) (e ▸ hb')⟩, by simp [s.ce.len, c.len], fun k a m e1 e2 => ?_, fun a z => ?_, fun a z h => ?_⟩, t.sl s.sl⟩
  · by_cases hk : k < A.length
    · rw [List.getElem?_append_left hk] at e1
      rw [List.getElem?_append_left (by rw [← s.ce.len]; exact hk)] at e2
      exact (s.ce.at_ k a m e1 e2).tr t fun o e => sm a o e
    · rw [List.getElem?_append_right (by omega)] at e1
      rw [List.getElem?_append_right (by rw [← s.ce.len]; omega), ← s.ce.len, List.getElem?_map] at e2
      cases e3 : cs[k - A.length]? with
      | none => rw [e3] at e2; cases e2
      | some m0 =>
        rw [e3] at e2
        have e4 : shC A.length m0 = m := Option.some.inj e2
        subst e4
        have h := c.at_ (k - A.length) a m0 e1 e3
        cases m0 with
        | l ds => obtain ⟨xs, h1, h2⟩ := h; exact ⟨xs, h1, h2.sh⟩
        | o C ks ds => obtain ⟨dx, xs, h1, h2, h3⟩ := h; exact ⟨dx, xs, h1, h2, h3.sh⟩
  · obtain ⟨o, e⟩ := s.ce.xs a z
    exact ⟨o, sm a o e⟩
  · rcases List.mem_append.mp h with h | h
    · exact s.ce.dj a z h
    · exact c.dj a (.inl z) h
theorem ev_callC (h : EA K t Γ M fun M1 ds => ∃ x, ds = (args x).map .v ∧ pre x ∧ ∀ cs d, res x cs d → Φ (M1 ++ cs.map (shC M1.length)) (shD M1.length d)) : EV K (tCall (PC K args pre res) [] E t) Γ M Φ := fun X A σ H s Q q =>
  h X A σ H s _ fun A1 M1 vs ds H1 t1 s1 r ⟨x, ed, hp, f⟩ => by
    subst ed
    refine ⟨XA X A1, x, s1.ce.xa, by rw [List.append_nil]; exact r.toRps, hp, fun v B cs d H' sm hb c rv hr => ?_⟩
    obtain ⟨t2, s2⟩ := more_cells s1 sm hb c
    have f2 := f cs d hr
    rw [← s1.ce.len] at f2
    exact q _ _ v _ H' (t1.trans t2) s2 rv.sh f2
theorem ev_callNC {n m : Nat} {ix : List Nat} (h : EA K t Γ M fun M1 ds => EA K tk Γ M1 fun M2 es => ∃ ps qs x, ds = ps.map .v ∧ es = qs.map .v ∧ ps.length = n ∧ qs.length = m ∧ perm ix (ps ++ qs) = args x ∧ pre x ∧ ∀ cs d, res x cs d → Φ (M2 ++ cs.map (shC M2.length)) (shD M2.length d)) :
    EV K (tCallN n m (PC K args pre res) (fun vs zs => perm ix (vs ++ zs)) E t tk) Γ M Φ := fun X A σ H s Q q =>
  h X A σ H s _ fun A1 M1 vs ds H1 t1 s1 r h2 => h2 X A1 σ H1 s1 _ fun A2 M2 zs es H2 t2 s2 r2 ⟨ps, qs, x, e1, e2, l1, l2, ex, hp, f⟩ => by
    subst e1 e2
    have r3 := (t2.rds r).toRps
    have r4 := r2.toRps
    refine ⟨by rw [Rps.length r3, l1], by rw [Rps.length r4, l2], XA X A2, x, s2.ce.xa, by rw [← ex]; exact (Rps.append r3 r4).perm ix, hp, fun v B cs d H' sm hb c rv hr => ?_⟩
    obtain ⟨t3, s3⟩ := more_cells s2 sm hb c
    have f2 := f cs d hr
    rw [← s2.ce.len] at f2
    exact q _ _ v _ H' ((t1.trans t2).trans t3) s3 rv.sh f2
end
theorem pc_body {K : PySem.W.Frag} {α : Type} {args : α → List P} {res : α → List MC → D → Prop} {t : TS} {N : List Str} {x : α}
    (h : SV K 0 t (startE N.length ((args x).map .v)) [] { nx := fun _ _ => False, rt := fun M d => res x M d }) {X : Addr → Prop} {vs : List V} {H : Hp} {Q : VK}
    (hx : ∀ a, X a → ∃ o, H a = some o) (r : Rps K X H vs (args x)) (q : ∀ v B cs d H', Same H H' → (∀ b ∈ B, H b = none) → Cells K X B cs H' → RD K X B H' v d → res x cs d → Q v H') : t { nx := fun _ H' => Q .non H', rt := Q } (L2.start N vs) H := by
  have c0 : Cells K X [] [] H := ⟨List.nodup_nil, rfl, fun k a c e _ => by simp at e, hx, fun a _ h => by simp at h⟩
  have r0 : RDs K X [] H vs ((args x).map .v) := .ofRps (r.less fun a z => z.elim id fun z => by simp at z)
  refine h X [] H rfl [] (L2.start N vs) H _ .refl ⟨c0, sl_start r0⟩ ⟨fun A M Γ σ H' t1 s1 e => e.elim, fun A M Γ σ H' v d t1 s1 r1 hr => ?_, fun A M Γ σ H' t1 s1 e => e.elim, fun A M Γ σ H' t1 s1 e => e.elim⟩
  obtain ⟨B, eA, fB⟩ := t1.ext
  rw [List.nil_append] at eA
  subst eA
  exact q v A M d H' (fun a o e => t1.keep a o e (by simp)) fB s1.ce r1 hr
end Z
set_option maxRecDepth 100000
set_option maxHeartbeats 4000000
/-! == and != by an own __eq__. -/
namespace Z
open PySem PySem.Spec PyProof.Rows L2
section
variable {prog : Program} {w : World} {A : Around} {E : Value → Shared → Prop} {s : Shared} {K : PySem.W.Frag} {x C f : Addr} {ox : Obj} {od : Option Obj} {y : Value}
theorem ne_entry (X : K.In s.heap) (I : PySem.W.InstAt s.heap x ox C od) (hs : PySem.W.findIn K (.ref C) "__eq__" = some (some (.ref f))) (hf : PySem.W.isFn K (.ref f) = true) (hu : A.units < cLine) {Q : Fin → Shared → Prop}
    (hcall : wpAny (model prog w) A (call (.ref f) [.ref x, y]) (fun v s' => ∃ b, v = .bool b ∧ Q (.done (.ret (.bool (!b)))) s') E s) :
    wpAny (model prog w) A (Builtin.«object.__ne__» ⟨[.ref x, y], []⟩) Q E s := by
  unfold Builtin.«object.__ne__»
  repeat (first
    | with_reducible refine wpAny_cRoomFor hu ?_
    | (refine wpAny_bind (m := callSpecialIfBound? (.ref x) (Str.ofString "__eq__") [y])
        (PySem.W.ifBound_K X I hs hf (wpAny_mono hcall (fun v s' hr => by
          obtain ⟨b, rfl, hq⟩ := hr
          repeat (first | exact hq | exact wpAny_pure hq | exact wpAny_truthy_bool hq | (refine wpAny_bind (m := truthy (.bool _)) (wpAny_truthy_bool ?_)) | wp_step)) fun _ _ e => e)))
    | wp_step)
theorem slotNe : Slot "object" "__ne__" "object.__ne__" :=
  .of (owner := "object") (n := "__ne__") (by rw [typeLookup_type, builtinLookup_eq_fast]; kernel_rfl) (by decide +kernel) (by decide +kernel) (by decide +kernel) (.inl (by decide +kernel)) (by rw [isSubtype_type]; kernel_rfl)
theorem try_ne (X : K.In s.heap) (I : PySem.W.InstAt s.heap x ox C od) (hs : PySem.W.findIn K (.ref C) "__eq__" = some (some (.ref f))) (hf : PySem.W.isFn K (.ref f) = true) (hn : PySem.W.findIn K (.ref C) "__ne__" = some (some (.builtin "object.__ne__")))
    (ho : PySem.W.subIn K (.ref C) (.type "object") = some true) (hu : A.units + 1 < cLine) {Q : Option Value → Shared → Prop}
    (hcall : wpAny (model prog w) A.in1 (call (.ref f) [.ref x, y]) (fun v s' => ∃ b, v = .bool b ∧ Q (some (.bool (!b))) s') E s) :
    wpAny (model prog w) A (tryCompare (.ref x) "__ne__" y) Q E s := by
  simp only [tryCompare]
  refine wpAny_bind ?_
  simp only [callSpecialIfBound?, bindSpecialIfBound?]
  refine wpAny_holding (wpAny_bind (wpAny_bind (wpAny_bind (I.type.here ((PySem.W.looks_findIn X hn).here ?_)))))
  simp only [slotNe.bind]
  refine wpAny_bind (wpAny_askSetting (wpAny_ite ?_))
  have kk : wpAny (model prog w) A (call (.builtin "object.__ne__") ([.ref x] ++ [y])) (fun v s' => ∃ b, v = .bool b ∧ Q (some (.bool b)) s') E s := by
    refine wpAny_call (codeAny_call_builtin slotNe.plain F.cmpEntry_ne (PySem.W.check_slot F.cmpKind_ne F.cmpSplit_ne (I.type.andThen (PySem.W.looks_subIn X ho)) (F.cmpArgs_ne _ _) ?_))
    exact ne_entry (A := A.in1) X I hs hf hu (wpAny_mono hcall (fun v s' ⟨b, e, q⟩ => ⟨b, e, ⟨!b, rfl, q⟩⟩) fun _ _ e => e)
  have fin : wpAny (model prog w) A (call (.builtin "object.__ne__") ([.ref x] ++ [y]) >>= fun v => pure (some v)) (fun r s' => ∃ b, r = some (.bool b) ∧ Q (some (.bool b)) s') E s :=
    wpAny_bind (wpAny_mono kk (fun v s' ⟨b, e, q⟩ => by subst e; exact wpAny_pure ⟨b, rfl, q⟩) fun _ _ h' => h')
  have fin2 : ∀ {α : Type} (k : Option Value → Sem α) (Q2 : α → Shared → Prop), (∀ b s', Q (some (.bool b)) s' → wpAny (model prog w) A (k (some (.bool b))) Q2 E s') →
      wpAny (model prog w) A ((call (.builtin "object.__ne__") ([.ref x] ++ [y]) >>= fun v => pure (some v)) >>= k) Q2 E s := fun k Q2 h =>
    wpAny_bind (wpAny_mono fin (fun v s' ⟨b, e, q⟩ => by subst e; exact h b s' q) fun _ _ h' => h')
  split
  · refine wpAny_bind (wpAny_pure (wpAny_pure ?_))
    refine wpAny_mono fin (fun r s' ⟨b, e, q⟩ => ?_) fun _ _ h' => h'
    subst e
    exact wpAny_pure q
  · refine wpAny_tryCatch (wpAny_bind (wpAny_pure (wpAny_pure ?_)))
    refine wpAny_mono fin (fun r s' ⟨b, e, q⟩ => ?_) fun _ _ h' => h'
    subst e
    exact wpAny_pure q
theorem rich_ne {L : Addr} {h₀ : Heap} {m : Str → Option Value} {tb : Value} (X : K.In s.heap) (I : PySem.W.InstAt s.heap x ox C od) (hb : PySem.W.Looks (model prog w) s.heap (typeOf y) tb) (hnf : PySem.W.notFirst K C tb = true)
    (hs : PySem.W.findIn K (.ref C) "__eq__" = some (some (.ref f))) (hf : PySem.W.isFn K (.ref f) = true) (hn : PySem.W.findIn K (.ref C) "__ne__" = some (some (.builtin "object.__ne__")))
    (ho : PySem.W.subIn K (.ref C) (.type "object") = some true) (hu : A.units + 1 < cLine) {Q : Value → Shared → Prop}
    (hcall : wpAny (model prog w) A.in1 (call (.ref f) [.ref x, y]) (fun v s' => ∃ b, v = .bool b ∧ Q (.bool (!b)) s') E s) :
    wpAny (model prog w) A (richCompare .NotEq (.ref x) y) Q E s := by
  have one : wpAny (model prog w) A (tryCompare (.ref x) "__ne__" y) (fun r s' => ∃ v, r = some v ∧ Q v s') E s :=
    try_ne X I hs hf hn ho hu (wpAny_mono hcall (fun v s' ⟨b, e, q⟩ => ⟨b, e, _, rfl, q⟩) fun _ _ e => e)
  unfold richCompare
  simp only [oneThing_ref]
  refine wpAny_holding (wpAny_bind (wpAny_cRoomFor (Nat.lt_of_succ_lt hu) ?_))
  refine wpAny_bind (I.type.here (wpAny_bind (hb.here ?_)))
  rw [cmpInfo_NotEq]
  dsimp only
  split
  · rename_i q
    have e : PySem.W.subIn K tb (.ref C) = some false := by
      rcases Bool.or_eq_true_iff.mp hnf with e | e
      · rw [beq_iff_eq.mp e] at q; simp at q
      · exact beq_iff_eq.mp e
    refine wpAny_bind ((PySem.W.looks_subIn X e).here ?_)
    simp only [Bool.false_eq_true, if_false]
    refine wpAny_bind (wpAny_mono one (fun r s' z => ?_) fun _ _ e => e)
    obtain ⟨v, rfl, hq⟩ := z
    exact wpAny_pure hq
  · refine wpAny_bind (wpAny_pure ?_)
    simp only [Bool.false_eq_true, if_false]
    refine wpAny_bind (wpAny_mono one (fun r s' z => ?_) fun _ _ e => e)
    obtain ⟨v, rfl, hq⟩ := z
    exact wpAny_pure hq
end

structure EqC (K : PySem.W.Frag) (C f : Addr) : Prop where
  eq : PySem.W.findIn K (.ref C) "__eq__" = some (some (.ref f))
  fn : PySem.W.isFn K (.ref f) = true
  ne : PySem.W.findIn K (.ref C) "__ne__" = some (some (.builtin "object.__ne__"))
  ob : PySem.W.subIn K (.ref C) (.type "object") = some true
def rEqO (K : PySem.W.Frag) (C : Addr) (sp : Sp) : R2 := fun x y H Q => ∃ a dx fs t, x = .ref a ∧ H a = some (.ins C dx fs) ∧ TyX K H y t ∧ PySem.W.notFirst K C t = true ∧ sp [x, y] H Q E0
def rNeO (K : PySem.W.Frag) (C : Addr) (sp : Sp) : R2 := fun x y H Q => ∃ a dx fs t, x = .ref a ∧ H a = some (.ins C dx fs) ∧ TyX K H y t ∧ PySem.W.notFirst K C t = true ∧ sp [x, y] H (fun v H' => ∃ b, v = .bl b ∧ Q (.bl (!b)) H') E0
section
variable {X : Cx} {C f : Addr} {k : Nat} {fd : FuncData} {ps : List Str} {sp : Sp} {pins : List (Addr × Obj)} {σ : L2.St} {H : Hp} {s : Shared}
theorem run_own {A : Around} {Q : VK} {us : List Value} {vs : List V} (F : FnOk X.prog X.w X.K X.mg X.base CX0 k f fd ps sp) (hr : Room k A) (hb : Binds X.K fd ps []) (e0 : Env0 X.prog X.w X.K X.mg X.base A X.stack s H)
    (I : Inv X pins σ H s) (r : Vals vs us) (h : sp vs H Q E0) : wpAny (model X.prog X.w) A (call (.ref f) us) (L2.EP X pins σ Q) X.xe s := by
  have hl : us.length = ps.length := by rw [← r.length]; exact F.len _ _ _ _ h
  refine wpAny_call (codeAny_mono (F.run A X.stack s H ⟨us, []⟩ us vs Q E0 hr e0 (by
    have := hb s us I.kIn (by simpa using hl)
    simpa using this) r h) fun r s' hq => ?_)
  cases r with
  | error e => exact hq.elim
  | ok fl =>
    cases fl with
    | ret u => exact I.after hq
    | next => exact False.elim hq
    | brk => exact False.elim hq
    | cont => exact False.elim hq
theorem op_eqO (c : EqC X.K C f) (F : FnOk X.prog X.w X.K X.mg X.base CX0 k f fd ps sp) (hr : Room k X.A) (hb : Binds X.K fd ps []) : OpR X (compareOp .Eq) (rEqO X.K C sp) := by
  intro pins s σ H x y v u Q I rx ry h
  obtain ⟨a, dx, fs, t, rfl, ha, ty, hn, q⟩ := h
  cases (show v = Value.ref a from rx)
  obtain ⟨mA, J, _⟩ := ins_get I.hok ha
  obtain ⟨od, J, _⟩ := J.look
  obtain ⟨m, hF⟩ := I.fr
  obtain ⟨P, kx, hP, _⟩ := kit_of I ry ty
  refine PySem.W.cmp_K (op := .Eq) (tb := t) hr.units0 hF I.ok.mod.kin J (kx.ty _ _ I.kIn hP) hn c.eq c.fn ?_
  refine wpAny_mono (run_own F hr hb I.env0 I (.cons (show RelV (.ref a) (.ref a) from rfl) (.cons ry .nil)) q) (fun w s' z => ?_) fun _ _ x => x
  obtain ⟨z', H', I', rz, qz⟩ := z
  exact SlX.cmpback rz ⟨z', H', I', rz, qz⟩
theorem op_neO (c : EqC X.K C f) (F : FnOk X.prog X.w X.K X.mg X.base CX0 k f fd ps sp) (hr : Room (k + 1) X.A) (hb : Binds X.K fd ps []) : OpR X (compareOp .NotEq) (rNeO X.K C sp) := by
  intro pins s σ H x y v u Q I rx ry h
  obtain ⟨a, dx, fs, t, rfl, ha, ty, hn, q⟩ := h
  cases (show v = Value.ref a from rx)
  obtain ⟨mA, J, _⟩ := ins_get I.hok ha
  obtain ⟨od, J, _⟩ := J.look
  obtain ⟨P, kx, hP, _⟩ := kit_of I ry ty
  show wpAny _ _ (richCompare .NotEq _ _) _ _ _
  refine rich_ne (L := 0) (h₀ := s.heap) (m := fun _ => none) (tb := t) I.kIn J (kx.ty _ _ I.kIn hP) hn c.eq c.fn c.ne c.ob (hu_of hr) ?_
  refine wpAny_mono (run_own F hr.in1 hb I.env0.in1 I (.cons (show RelV (.ref a) (.ref a) from rfl) (.cons ry .nil)) q) (fun w s' z => ?_) fun _ _ x => x
  obtain ⟨z', H', I', rz, b, eb, qz⟩ := z
  subst eb
  cases rz
  exact ⟨b, rfl, .bl (!b), H', I', rfl, qz⟩
end
section
variable {K : PySem.W.Frag} {p q z : P} {r r' : R2}
theorem rv_l (h : RV K r p q z) : RV K (fun x y H Q => r x y H Q ∨ r' x y H Q) p q z := fun X H x y hx r1 r2 Q k => .inl (h X H x y hx r1 r2 Q k)
theorem rv_r (h : RV K r' p q z) : RV K (fun x y H Q => r x y H Q ∨ r' x y H Q) p q z := fun X H x y hx r1 r2 Q k => .inr (h X H x y hx r1 r2 Q k)
theorem insOf {X : Addr → Prop} {H : Hp} {v : V} {C : Addr} {ks : List Str} {ds : List P} (h : Rp K X H v (.ins C ks ds)) : ∃ a dx fs, v = .ref a ∧ H a = some (.ins C dx fs) := by
  cases h with
  | ins h _ _ _ => exact ⟨_, _, _, rfl, h⟩
theorem rv_eqO {α : Type} {args : α → List P} {pre : α → Prop} {res : α → P → Prop} {C : Addr} {ks : List Str} {ds : List P} {b : Bool} (hc : ∀ D, isInsP q = some D → ClsI K D) (hn : PySem.W.notFirst K C (tyP q) = true) (x : α)
    (ex : args x = [.ins C ks ds, q]) (hp : pre x) (hr : ∀ p, res x p → p = .bl b) : RV K (rEqO K C (PF K args pre res)) (.ins C ks ds) q (.bl b) := fun X H v w hx r1 r2 Q k => by
  obtain ⟨a, dx, fs, e, ha⟩ := insOf r1
  exact ⟨a, dx, fs, _, e, ha, tyX_of hc r2, hn, X, x, hx, by rw [ex]; exact .cons r1 (.cons r2 .nil), hp, fun v p H' sm rp hh => by rw [hr p hh] at rp; exact k v H' sm rp⟩
theorem rv_neO {α : Type} {args : α → List P} {pre : α → Prop} {res : α → P → Prop} {C : Addr} {ks : List Str} {ds : List P} {b : Bool} (hc : ∀ D, isInsP q = some D → ClsI K D) (hn : PySem.W.notFirst K C (tyP q) = true) (x : α)
    (ex : args x = [.ins C ks ds, q]) (hp : pre x) (hr : ∀ p, res x p → p = .bl b) : RV K (rNeO K C (PF K args pre res)) (.ins C ks ds) q (.bl (!b)) := fun X H v w hx r1 r2 Q k => by
  obtain ⟨a, dx, fs, e, ha⟩ := insOf r1
  refine ⟨a, dx, fs, _, e, ha, tyX_of hc r2, hn, X, x, hx, by rw [ex]; exact .cons r1 (.cons r2 .nil), hp, fun v p H' sm rp hh => ?_⟩
  rw [hr p hh] at rp
  cases rp
  exact ⟨b, rfl, k _ H' sm (.bl _)⟩
end

/-! ### callees in bundles -/
structure Cal (P : Program) (w : World) (K : PySem.W.Frag) (mg : Str → Option Value) (base : Heap) (k : Nat) (x : Str) (ps : List Str) (sp : Sp) : Prop where
  ex : ∃ (f : Addr) (fd : FuncData), FnOk P w K mg base CX0 k f fd ps sp ∧ mg x = some (.ref f) ∧ PySem.W.keepIn K (.ref f) = true ∧ Binds K fd ps []
structure CalN (P : Program) (w : World) (K : PySem.W.Frag) (mg : Str → Option Value) (base : Heap) (k : Nat) (x : Str) (n : Nat) (ks : List Str) (ix : List Nat) (sp : Sp) : Prop where
  ex : ∃ (f : Addr) (fd : FuncData) (ps : List Str), FnOk P w K mg base CX0 k f fd ps sp ∧ mg x = some (.ref f) ∧ PySem.W.keepIn K (.ref f) = true ∧ KBn K fd ps n ks (fun us ws => perm ix (us ++ ws)) (fun vs zs => perm ix (vs ++ zs))
/-- C(..) -/
structure CalM (P : Program) (w : World) (K : PySem.W.Frag) (mg : Str → Option Value) (base : Heap) (k : Nat) (x : Str) (C : Addr) (sp : Sp) : Prop where
  ex : ∃ (f : Addr) (fd : FuncData) (ps : List Str), Mk K C f ∧ FnOk P w K mg base CX0 k f fd ps sp ∧ mg x = some (.ref C) ∧ Binds K fd ps []
structure CalMN (P : Program) (w : World) (K : PySem.W.Frag) (mg : Str → Option Value) (base : Heap) (k : Nat) (x : Str) (C : Addr) (ks : List Str) (ix : List Nat) (sp : Sp) : Prop where
  ex : ∃ (f : Addr) (fd : FuncData) (ps : List Str), Mk K C f ∧ FnOk P w K mg base CX0 k f fd ps sp ∧ mg x = some (.ref C) ∧ KBn K fd ps 1 ks (fun us ws => perm ix (us ++ ws)) (fun vs zs => perm ix (vs ++ zs))
/-- own == -/
structure CalE (P : Program) (w : World) (K : PySem.W.Frag) (mg : Str → Option Value) (base : Heap) (k : Nat) (C : Addr) (sp : Sp) : Prop where
  ex : ∃ (f : Addr) (fd : FuncData) (ps : List Str), EqC K C f ∧ FnOk P w K mg base CX0 k f fd ps sp ∧ Binds K fd ps []
section
variable {P : Program} {w : World} {K : PySem.W.Frag} {mg : Str → Option Value} {base : Heap} {j k n : Nat} {x : Str} {ps ks : List Str} {ix : List Nat} {sp : Sp} {C : Addr}
theorem Cal.mono (c : Cal P w K mg base j x ps sp) (h : j ≤ k) : Cal P w K mg base k x ps sp := ⟨let ⟨f, fd, a, b⟩ := c.ex; ⟨f, fd, a.mono h, b⟩⟩
theorem CalN.mono (c : CalN P w K mg base j x n ks ix sp) (h : j ≤ k) : CalN P w K mg base k x n ks ix sp := ⟨let ⟨f, fd, ps, a, b⟩ := c.ex; ⟨f, fd, ps, a.mono h, b⟩⟩
theorem CalM.mono (c : CalM P w K mg base j x C sp) (h : j ≤ k) : CalM P w K mg base k x C sp := ⟨let ⟨f, fd, ps, m, a, b⟩ := c.ex; ⟨f, fd, ps, m, a.mono h, b⟩⟩
theorem CalMN.mono (c : CalMN P w K mg base j x C ks ix sp) (h : j ≤ k) : CalMN P w K mg base k x C ks ix sp := ⟨let ⟨f, fd, ps, m, a, b⟩ := c.ex; ⟨f, fd, ps, m, a.mono h, b⟩⟩
theorem CalE.mono (c : CalE P w K mg base j C sp) (h : j ≤ k) : CalE P w K mg base k C sp := ⟨let ⟨f, fd, ps, m, a, b⟩ := c.ex; ⟨f, fd, ps, m, a.mono h, b⟩⟩
end
section
variable {X : Cx} {k n : Nat} {x : Str} {ps ks : List Str} {ix : List Nat} {sp : Sp} {C : Addr} {p pos : Pos} {e a b : Expr} {es : List Expr} {kws : List Keyword} {t tk : TA} {ta tb : TE}
theorem pe_cal (c : Cal X.prog X.w X.K X.mg X.base k x ps sp) (hr : Room k X.A) (hg : Gl X x) (ha : PA X (e :: es) t) (hdb : (x == ("__debug__" : Str)) = false := by decide)
    (he : starEach (e :: es) X.env = (false, eval e X.env) :: starEach es X.env := by rfl) (hpl : (backTo pos (starEach es X.env)).any (·.1) = false := by rfl) : PE X (.Call (.Name x p) (e :: es) [] pos) (tCall sp [] E0 t) := by
  obtain ⟨f, fd, F, hm, hk, hb⟩ := c.ex
  exact pe_call F hr hg hm hk hb .nil pass0 ha hdb he hpl
theorem pe_calN0 (c : CalN X.prog X.w X.K X.mg X.base k x 0 ks ix sp) (hr : Room k X.A) (hg : Gl X x) (hkw : PK X kws tk) (hall : (backToKw pos (keywordEach kws X.env)).all (·.1.isSome) = true := by rfl)
    (hks : (backToKw pos (keywordEach kws X.env)).filterMap (·.1) = ks := by rfl) (hdb : (x == ("__debug__" : Str)) = false := by decide)
    (hpl : ((backTo pos (starEach [] X.env)).any (·.1) || (backToKw pos (keywordEach kws X.env)).any (·.1.isNone)) = false := by rfl) :
    PE X (.Call (.Name x p) [] kws pos) (tCallN 0 ks.length sp (fun vs zs => perm ix (vs ++ zs)) E0 tNil tk) := by
  obtain ⟨f, fd, ps, F, hm, hk, hb⟩ := c.ex
  exact pe_callN0 F hr hg hm hk hb pass0 hkw hall hks hdb hpl
theorem pe_calN (c : CalN X.prog X.w X.K X.mg X.base k x n ks ix sp) (hr : Room k X.A) (hg : Gl X x) (ha : PA X (e :: es) t) (hkw : PK X kws tk) (hall : (backToKw pos (keywordEach kws X.env)).all (·.1.isSome) = true := by rfl)
    (hks : (backToKw pos (keywordEach kws X.env)).filterMap (·.1) = ks := by rfl) (hdb : (x == ("__debug__" : Str)) = false := by decide) (he : starEach (e :: es) X.env = (false, eval e X.env) :: starEach es X.env := by rfl)
    (hpl : ((backTo pos (starEach (e :: es) X.env)).any (·.1) || (backToKw pos (keywordEach kws X.env)).any (·.1.isNone)) = false := by rfl) :
    PE X (.Call (.Name x p) (e :: es) kws pos) (tCallN n ks.length sp (fun vs zs => perm ix (vs ++ zs)) E0 t tk) := by
  obtain ⟨f, fd, ps, F, hm, hk, hb⟩ := c.ex
  exact pe_callN F hr hg hm hk hb pass0 ha hkw hall hks hdb he hpl
theorem pe_calM (c : CalM X.prog X.w X.K X.mg X.base k x C sp) (hr : Room (k + 1) X.A) (hg : Gl X x) (ha : PA X (e :: es) t) (hdb : (x == ("__debug__" : Str)) = false := by decide)
    (he : starEach (e :: es) X.env = (false, eval e X.env) :: starEach es X.env := by rfl) (hpl : (backTo pos (starEach es X.env)).any (·.1) = false := by rfl) : PE X (.Call (.Name x p) (e :: es) [] pos) (tMake C sp [] E0 t) := by
  obtain ⟨f, fd, ps, M, F, hm, hb⟩ := c.ex
  exact pe_make M F hr hg hm hb .nil pass0 ha hdb he hpl
theorem pe_calMN (c : CalMN X.prog X.w X.K X.mg X.base k x C ks ix sp) (hr : Room (k + 1) X.A) (hg : Gl X x) (hkw : PK X kws tk) (hall : (backToKw pos (keywordEach kws X.env)).all (·.1.isSome) = true := by rfl)
    (hks : (backToKw pos (keywordEach kws X.env)).filterMap (·.1) = ks := by rfl) (hdb : (x == ("__debug__" : Str)) = false := by decide)
    (hpl : ((backTo pos (starEach [] X.env)).any (·.1) || (backToKw pos (keywordEach kws X.env)).any (·.1.isNone)) = false := by rfl) :
    PE X (.Call (.Name x p) [] kws pos) (tMakeK C 0 ks.length sp (fun vs zs => perm ix (vs ++ zs)) E0 tNil tk) := by
  obtain ⟨f, fd, ps, M, F, hm, hb⟩ := c.ex
  exact pe_makeK0 M F hr hg hm hb pass0 hkw hall hks hdb hpl
theorem op_eqE (c : CalE X.prog X.w X.K X.mg X.base k C sp) (hr : Room k X.A) : OpR X (compareOp .Eq) (rEqO X.K C sp) := by
  obtain ⟨f, fd, ps, E, F, hb⟩ := c.ex
  exact op_eqO E F hr hb
theorem op_neE (c : CalE X.prog X.w X.K X.mg X.base k C sp) (hr : Room (k + 1) X.A) : OpR X (compareOp .NotEq) (rNeO X.K C sp) := by
  obtain ⟨f, fd, ps, E, F, hb⟩ := c.ex
  exact op_neO E F hr hb
end
/-! ### defs keep their promises -/
/-- the derivation of a def's body -/
def Dv (P : Program) (w : World) (K : PySem.W.Frag) (mg : Str → Option Value) (base : Heap) (k : Nat) (N : List Str) (qual : Str) (scope : Scope) (f : Addr) (body : List Stmt) (t : TS) : Prop :=
  ∀ (cdv : Value) (A : Around) (outer : List PySem.Env) (s : Shared) (H : Hp) (E : XK), Room k (A.deeper (envOfC qual scope s.heap.objs.size f cdv)) → PSs (cxOf CX0 P w K mg base N qual scope f cdv A outer s H E).nox body t
section
variable {P0 : Program} {w : World} {K : PySem.W.Frag} {mg : Str → Option Value} {base : Heap} {x qual : Str} {params : Arguments} {body : List Stmt} {scope : Scope} {f : Addr} {fd : FuncData} {N ps : List Str} {k : Nat}
  {α : Type} {args : α → List Z.P} {pre : α → Prop} {cost : α → Nat} {t : TS}
theorem fn_pf {res : α → Z.P → Prop} (F : FunD K x qual params body scope [] [] f fd) (S : FnScope N ps scope) (len : ∀ x, (args x).length = ps.length) (dv : Dv P0 w K mg base k N qual scope f body t)
    (pl : ∀ x, pre x → SV K 0 t (startE N.length ((args x).map .v)) [] { nx := fun _ _ => res x .non, rt := fun M d => ∃ p, Fz 0 M d p ∧ res x p }) : FnOk P0 w K mg base CX0 (k + 1) f fd ps (PF K args pre res) := by
  refine F.ok S (fun vs H Q E h => ?_) (fun cdv A outer s H vs Q E hr h => ⟨t, PSs.nox (dv cdv A outer s H E hr), ?_⟩)
  · obtain ⟨X, x, _, r, _⟩ := h
    rw [Rps.length r, len]
  · obtain ⟨X, x, hx, r, hp, q⟩ := h
    exact pf_body (pl x hp) hx r q
theorem fn_pc {res : α → List MC → D → Prop} (F : FunD K x qual params body scope [] [] f fd) (S : FnScope N ps scope) (len : ∀ x, (args x).length = ps.length) (dv : Dv P0 w K mg base k N qual scope f body t)
    (pl : ∀ x, pre x → SV K 0 t (startE N.length ((args x).map .v)) [] { nx := fun _ _ => False, rt := fun M d => res x M d }) : FnOk P0 w K mg base CX0 (k + 1) f fd ps (PC K args pre res) := by
  refine F.ok S (fun vs H Q E h => ?_) (fun cdv A outer s H vs Q E hr h => ⟨t, PSs.nox (dv cdv A outer s H E hr), ?_⟩)
  · obtain ⟨X, x, _, r, _⟩ := h
    rw [Rps.length r, len]
  · obtain ⟨X, x, hx, r, hp, q⟩ := h
    exact pc_body (pl x hp) hx r q
theorem fn_bf {res : α → Z.P → Prop} (F : FunD K x qual params body scope [] [] f fd) (S : FnScope N ps scope) (len : ∀ x, (args x).length + 1 = ps.length) (dv : Dv P0 w K mg base k N qual scope f body t)
    (pl : ∀ x n c, pre x → Bx n c → n + cost x ≤ 1000000000 → SV K 1 t (startE N.length (.c 0 :: (args x).map .v)) [c] { nx := fun _ M => res x .non ∧ ∃ c' M', M = c' :: M' ∧ Bx (n + cost x) c', rt := fun M d => ∃ p, Fz 1 M d p ∧ res x p ∧ ∃ c' M', M = c' :: M' ∧ Bx (n + cost x) c' }) :
    FnOk P0 w K mg base CX0 (k + 1) f fd ps (BF K args pre cost res) := by
  refine F.ok S (fun vs H Q E h => ?_) (fun cdv A outer s H vs Q E hr h => ⟨t, PSs.nox (dv cdv A outer s H E hr), ?_⟩)
  · obtain ⟨X, b, c, n, vs', x, rfl, _, _, _, r, _⟩ := h
    rw [List.length_cons, Rps.length r, len]
  · obtain ⟨X, b, c, n, vs', x, rfl, cb, hb, hn, r, hp, q⟩ := h
    exact bf_body hb (pl x n c hp hb hn) cb r q
theorem fn_mf {C : Addr} {ks : List Str} {res : α → List Z.P} (F : FunD K x qual params body scope [] [] f fd) (S : FnScope N ps scope) (len : ∀ x, (args x).length + 1 = ps.length) (dv : Dv P0 w K mg base k N qual scope f body t)
    (pl : ∀ x, pre x → SV K 1 t (startE N.length (.c 0 :: (args x).map .v)) [.o C [] []] { nx := fun _ M => ∃ M', M = .o C ks ((res x).map .v) :: M', rt := fun _ _ => False }) : FnOk P0 w K mg base CX0 (k + 1) f fd ps (MF K C args pre ks res) := by
  refine F.ok S (fun vs H Q E h => ?_) (fun cdv A outer s H vs Q E hr h => ⟨t, PSs.nox (dv cdv A outer s H E hr), ?_⟩)
  · obtain ⟨X, a, dx, vs', x, rfl, _, _, _, r, _⟩ := h
    rw [List.length_cons, Rps.length r, len]
  · obtain ⟨X, a, dx, vs', x, rfl, hX, ha, hx, r, hp, q⟩ := h
    exact mf_body (pl x hp) ha hX hx r q
end
end Z
/-! short words for what built-ins do -/
namespace Z
open PySem PySem.Spec PyProof.Rows L2
abbrev rIntO : List V → Hp → VK → Prop := fun xs H Q => (∃ i, xs = [.int i] ∧ Q (.int i) H) ∨ ∃ k, xs = [.bl k] ∧ Q (.int (if k then 1 else 0)) H
abbrev rAbsO : List V → Hp → VK → Prop := fun xs H Q => ∃ i, xs = [.int i] ∧ Q (.int (if i < 0 then -i else i)) H
abbrev rInsert : V → List V → Hp → VK → Prop := fun x vs H Q => ∃ (l : Addr) (xs : List V) (i : Int) (y : V), x = .ref l ∧ vs = [.int i, y] ∧ H l = some (.lst xs) ∧ xs.length < sizeLine ∧ 0 ≤ i ∧ i < 2 ^ 63 ∧
    Q .non (upd H l (.lst (xs.take i.toNat ++ [y] ++ xs.drop i.toNat)))
/-! isinstance by the kind of data -/
def pI : P → Bool
  | .int _ => true | .bl _ => true | _ => false
def pB : P → Bool
  | .bl _ => true | _ => false
def pS : P → Bool
  | .str _ => true | _ => false
def pT : P → Bool
  | .tup _ => true | _ => false
def pL : P → Bool
  | .lst _ => true | .scr _ => true | _ => false
section
variable {K : PySem.W.Frag} {te : TE} {Γ : Env} {M : Mem} {p : P}
theorem nins (hn : isInsP p = none) : ∀ C, isInsP p = some C → ClsI K C := fun C h => by rw [hn] at h; cases h
theorem ep_isi_int (h : EF K te Γ M p) (hn : isInsP p = none) : EP K (tCB (rIsi K) (tCons te (tCons (tC (.ty "int")) tNil))) Γ M (.bl (pI p)) := ep_isi h (.ty _) (nins hn) (by cases p <;> first | rfl | cases hn)
theorem ep_isi_bool (h : EF K te Γ M p) (hn : isInsP p = none) : EP K (tCB (rIsi K) (tCons te (tCons (tC (.ty "bool")) tNil))) Γ M (.bl (pB p)) := ep_isi h (.ty _) (nins hn) (by cases p <;> first | rfl | cases hn)
theorem ep_isi_str (h : EF K te Γ M p) (hn : isInsP p = none) : EP K (tCB (rIsi K) (tCons te (tCons (tC (.ty "str")) tNil))) Γ M (.bl (pS p)) := ep_isi h (.ty _) (nins hn) (by cases p <;> first | rfl | cases hn)
theorem ep_isi_tuple (h : EF K te Γ M p) (hn : isInsP p = none) : EP K (tCB (rIsi K) (tCons te (tCons (tC (.ty "tuple")) tNil))) Γ M (.bl (pT p)) := ep_isi h (.ty _) (nins hn) (by cases p <;> first | rfl | cases hn)
theorem ep_isi_list (h : EF K te Γ M p) (hn : isInsP p = none) : EP K (tCB (rIsi K) (tCons te (tCons (tC (.ty "list")) tNil))) Γ M (.bl (pL p)) := ep_isi h (.ty _) (nins hn) (by cases p <;> first | rfl | cases hn)
theorem ep_isi_lt (h : EF K te Γ M p) (hn : isInsP p = none) : EP K (tCB (rIsiT K) (tCons te (tCons (tTup (tCons (tC (.ty "list")) (tCons (tC (.ty "tuple")) tNil))) tNil))) Γ M (.bl (pL p || pT p)) := ep_isiT h (.ty _) (.ty _) (nins hn) (by cases p <;> first | rfl | cases hn)
end
section
variable {K : PySem.W.Frag} {n : Nat} {te ta tb tc : TE} {tt tu : TT} {t u : TS} {tar : TA} {Γ : Env} {M : Mem} {E : DE} {p q : P} {b c : Bool} {ps qs : List P} {i j : Int}
theorem ep_andF (h : EP K ta Γ M (.bl b)) (e : b = false) : EP K (tAndV ta tb) Γ M (.bl false) := by
  subst e
  exact ep_andV (c := true) h fun z => nomatch z
theorem ep_orT (h : EP K ta Γ M (.bl b)) (e : b = true) : EP K (tOrV ta tb) Γ M (.bl true) := by
  subst e
  exact ep_orV (c := true) h fun z => nomatch z
theorem eb_andF (h : EB K tt Γ M b) (e : b = false) : EB K (tAnd tt tu) Γ M false := by
  subst e
  exact eb_and (c := true) h fun z => nomatch z
theorem eb_orT (h : EB K tt Γ M b) (e : b = true) : EB K (tOr tt tu) Γ M true := by
  subst e
  exact eb_or (c := true) h fun z => nomatch z
theorem ep_ifT (h : EB K tt Γ M b) (e : b = true) (h1 : EP K ta Γ M p) : EP K (tIf tt ta tb) Γ M p := ev_if (et_eb h (by subst e; exact h1))
theorem ep_ifF (h : EB K tt Γ M b) (e : b = false) (h1 : EP K tb Γ M p) : EP K (tIf tt ta tb) Γ M p := ev_if (et_eb h (by subst e; exact h1))
theorem ep_ifI (h : EB K tt Γ M b) (h1 : b = true → EP K ta Γ M (.int i)) (h2 : b = false → EP K tb Γ M (.int j)) : EP K (tIf tt ta tb) Γ M (.int (if b = true then i else j)) := by
  cases b with
  | true => exact ep_ifT h rfl (h1 rfl)
  | false => exact ep_ifF h rfl (h2 rfl)
theorem ep_ifL (h : EB K tt Γ M b) (h1 : b = true → EP K ta Γ M (.lst ps)) (h2 : b = false → EP K tb Γ M (.lst qs)) : EP K (tIf tt ta tb) Γ M (.lst (if b = true then ps else qs)) := by
  cases b with
  | true => exact ep_ifT h rfl (h1 rfl)
  | false => exact ep_ifF h rfl (h2 rfl)
theorem ep_ifS {x y : Str} (h : EB K tt Γ M b) (h1 : b = true → EP K ta Γ M (.str x)) (h2 : b = false → EP K tb Γ M (.str y)) : EP K (tIf tt ta tb) Γ M (.str (if b = true then x else y)) := by
  cases b with
  | true => exact ep_ifT h rfl (h1 rfl)
  | false => exact ep_ifF h rfl (h2 rfl)
theorem sv_ifT (h : EB K tt Γ M b) (e : b = true) (h1 : SV K n t Γ M E) : SV K n (tIfS tt t u) Γ M E := sv_if (et_eb h (by subst e; exact h1))
theorem sv_ifF (h : EB K tt Γ M b) (e : b = false) (h1 : SV K n u Γ M E) : SV K n (tIfS tt t u) Γ M E := sv_if (et_eb h (by subst e; exact h1))
theorem sv_retP (h : EP K te Γ M p) (e : E.rt M (.v p)) : SV K n (tRet te) Γ M E := sv_ret (ev_ep h e)
theorem sv_tup {g : TG} (h : EP K te Γ M p) (hg : GV K g p Γ M fun Γ' => E.nx Γ' M) : SV K n (tAsg te g) Γ M E := sv_asgG (ev_ep h ⟨p, rfl, hg⟩)
theorem fz_is {p q : P} (h : q = p) : ∃ r, Fz n M (.v q) r ∧ r = p := ⟨q, .v q, h⟩
end
/-- cells that a callee made, as data -/
theorem ev_callCP {K : PySem.W.Frag} {α : Type} {args : α → List P} {pre : α → Prop} {res : α → List MC → D → Prop} {Γ : Env} {M : Mem} {Φ : Mem → D → Prop} {t : TA} {E : XK}
    (h : EA K t Γ M fun M1 ds => ∃ x, ds = (args x).map .v ∧ pre x ∧ ∀ cs d, res x cs d → ∃ p, Fz 0 cs d p ∧ Φ M1 (.v p)) : EV K (tCall (PC K args pre res) [] E t) Γ M Φ := fun X A σ H s Q q =>
  h X A σ H s _ fun A1 M1 vs ds H1 t1 s1 r ⟨x, ed, hp, f⟩ => by
    subst ed
    refine ⟨XA X A1, x, s1.ce.xa, by rw [List.append_nil]; exact r.toRps, hp, fun v B cs d H' sm hb c rv hr => ?_⟩
    obtain ⟨p, fz, f2⟩ := f cs d hr
    exact q _ _ v _ H' (t1.trans (.ofSame sm)) (s1.same sm) (.v (Fz.rp0 c fz rv)) f2
end Z
set_option maxRecDepth 100000
set_option maxHeartbeats 4000000
/-! comprehensions over written items, item by item -/
namespace Z
open PySem PySem.Spec PyProof.Rows L2
section
variable {K : PySem.W.Frag} {wi : TI} {g : TG} {tt : TT} {te : TE} {vs : List Nat} {Γ : Env} {M : Mem} {items outs : List P}
theorem GV.imp {p : P} {Ψ Ψ' : Env → Prop} (h : GV K g p Γ M Ψ) (i : ∀ Γ', Ψ Γ' → Ψ' Γ') : GV K g p Γ M Ψ' := fun X A σ H v s r Q q => h X A σ H v s r Q fun Γ' σ' s' f => q Γ' σ' s' (i Γ' f)
inductive LcU (K : PySem.W.Frag) (g : TG) (tt : TT) (te : TE) (Γ : Env) (M : Mem) : List P → List P → Prop
  | nil : LcU K g tt te Γ M [] []
  | take {p q : P} {ps qs : List P} : GV K g p Γ M (fun Γ2 => EB K tt Γ2 M true ∧ EP K te Γ2 M q) → LcU K g tt te Γ M ps qs → LcU K g tt te Γ M (p :: ps) (q :: qs)
  | skip {p : P} {ps qs : List P} : GV K g p Γ M (fun Γ2 => EB K tt Γ2 M false) → LcU K g tt te Γ M ps qs → LcU K g tt te Γ M (p :: ps) qs
theorem LcU.len : ∀ {items outs : List P}, LcU K g tt te Γ M items outs → outs.length ≤ items.length
  | _, _, .nil => Nat.le_refl _
  | _, _, .take _ h => Nat.succ_le_succ h.len
  | _, _, .skip _ h => Nat.le_succ_of_le h.len
theorem en_lcU (hT : Tgt vs g) (hi : EIp K wi Γ M items) (hl : items.length ≤ 99999) (h : LcU K g tt te (wipeE Γ vs) M items outs) : EN K (tLc wi g tt te vs) Γ M fun M' ds => M' = M ∧ ds = outs.map .v := by
  refine en_lc hT (fun X A σ H s R q => hi X A σ H s R fun A' M' its J H' t s' wk ⟨e1, e2⟩ => q A' M' its J H' t s' wk ?_)
  subst e1 e2
  refine ⟨fun i M1 acc => M1 = M' ∧ ∃ rest, acc ++ rest = outs ∧ LcU K g tt te (wipeE Γ vs) M' (its.drop i) rest, ⟨rfl, outs, rfl, h⟩, fun i p M1 acc ep ⟨e1, rest, e2, hr⟩ => ⟨?_, ?_⟩, fun M1 acc ⟨e1, rest, e2, hr⟩ => ⟨e1, ?_⟩⟩
  · have h1 := h.len
    have h2 : acc.length ≤ outs.length := by rw [← e2, List.length_append]; omega
    omega
  · subst e1
    have e3 : its.drop i = p :: its.drop (i + 1) := by
      rw [List.drop_eq_getElem?_toList_append, ep]
      rfl
    rw [e3] at hr
    cases hr with
    | take h1 h2 =>
      refine h1.imp fun Γ2 ⟨hb, hv⟩ => et_eb hb ?_
      rw [if_pos rfl]
      exact ev_ep hv ⟨_, rfl, rfl, _, by rw [← e2, List.append_assoc]; rfl, h2⟩
    | skip h1 h2 =>
      refine h1.imp fun Γ2 hb => et_eb hb ?_
      exact ⟨rfl, rest, e2, h2⟩
  · rw [List.drop_length] at hr
    cases hr
    rw [← e2, List.append_nil]
theorem ep_lcU (hT : Tgt vs g) (hi : EIp K wi Γ M items) (hl : items.length ≤ 99999) (h : LcU K g tt te (wipeE Γ vs) M items outs) : EP K (tLc wi g tt te vs) Γ M (.lst outs) :=
  ev_new ((en_lcU hT hi hl h).imp fun M' ds ⟨e1, e2⟩ => ⟨_, e2, e1, rfl⟩)
/-- without a test -/
theorem lcU_take {p q : P} {ps qs : List P} (h : GV K g p Γ M fun Γ2 => EP K te Γ2 M q) (t : LcU K g tYes te Γ M ps qs) : LcU K g tYes te Γ M (p :: ps) (q :: qs) := .take (h.imp fun Γ2 f => ⟨eb_yes, f⟩) t
end
/-! a cell that is changed no more becomes data -/
def lowD (m : Nat) : D → Bool
  | .v _ => true | .c k => decide (k < m)
def lowC (m : Nat) : MC → Bool
  | .l ds => ds.all (lowD m) | .o _ _ ds => ds.all (lowD m)
section
variable {K : PySem.W.Frag} {n : Nat} {Γ Γ' : Env} {M0 : Mem} {ps : List P}
theorem RD.low {X : Addr → Prop} {A : List Addr} {H : Hp} {v : V} {d : D} {m : Nat} (h : RD K X A H v d) (l : lowD m d = true) : RD K X (A.take m) H v d := by
  cases h with
  | v r => exact .v (r.less fun a z => z.elim .inl fun z => .inr (List.mem_of_mem_take z))
  | c e =>
    have hk := of_decide_eq_true l
    refine .c ?_
    rw [List.getElem?_take_of_lt hk]
    exact e
theorem RDs.low {X : Addr → Prop} {A : List Addr} {H : Hp} {m : Nat} : ∀ {v : List V} {d : List D}, RDs K X A H v d → d.all (lowD m) = true → RDs K X (A.take m) H v d
  | _, _, .nil, _ => .nil
  | _, _, .cons h r, l => by
    rw [List.all_cons, Bool.and_eq_true] at l
    exact .cons (h.low l.1) (RDs.low r l.2)
theorem nrm_freeze (hn : n ≤ M0.length) (hl : Γ'.length = Γ.length) (hM : M0.all (lowC M0.length) = true) (hΓ : ∀ (i : Nat) (d : D), Γ'[i]? = some (some d) → (Γ[i]? = some (some d) ∧ lowD M0.length d = true) ∨ (d = .v (.lst ps) ∧ Γ[i]? = some (some (.c M0.length)))) :
    Nrm K n Γ (M0 ++ [.l (ps.map .v)]) Γ' M0 := fun X A0 A H0 H σ l t s => by
  obtain ⟨B, eA, fB⟩ := t.ext
  have lenA : A.length = M0.length + 1 := by rw [s.ce.len]; simp
  have tk : A.take M0.length = A0 ++ B.take (M0.length - n) := by
    rw [eA, List.take_append, List.take_of_length_le (by omega), l]
  refine ⟨A.take M0.length, ⟨⟨B.take (M0.length - n), tk, fun b hb => fB b (List.mem_of_mem_take hb)⟩, t.keep, t.stay⟩, ⟨s.ce.nd.sublist (List.take_sublist _ _), by rw [List.length_take]; omega, fun k a m e1 e2 => ?_, s.ce.xs, fun a z h => s.ce.dj a z (List.mem_of_mem_take h)⟩, by rw [s.sl.len, hl], fun i d e => ?_⟩
  · have hk : k < M0.length := (List.getElem?_eq_some_iff.mp e2).1
    rw [List.getElem?_take_of_lt hk] at e1
    have h := s.ce.at_ k a m e1 (by rw [List.getElem?_append_left hk]; exact e2)
    have lw := List.all_eq_true.mp hM m (List.mem_of_getElem? e2)
    cases m with
    | l ds => obtain ⟨xs, h1, h2⟩ := h; exact ⟨xs, h1, h2.low lw⟩
    | o C ks ds => obtain ⟨dx, xs, h1, h2, h3⟩ := h; exact ⟨dx, xs, h1, h2, h3.low lw⟩
  · rcases hΓ i d e with ⟨e1, lw⟩ | ⟨rfl, e1⟩
    · obtain ⟨v, e2, r⟩ := s.sl.at_ i d e1
      exact ⟨v, e2, r.low lw⟩
    · obtain ⟨v, e2, r⟩ := s.sl.at_ i _ e1
      refine ⟨v, e2, .v ?_⟩
      have f : Fz M0.length (M0 ++ [.l (ps.map .v)]) (.c M0.length) (.lst ps) := .c (Nat.le_refl _) (by rw [List.getElem?_append_right (Nat.le_refl _), Nat.sub_self]; rfl) (Fzs.vs _ _ _)
      exact Fz.rp s.ce f r
end
section
variable {K : PySem.W.Frag} {α : Type} {args : α → List P} {pre : α → Prop} {cost : α → Nat} {res : α → P → Prop} {Γ : Env} {M : Mem} {Φ : Mem → D → Prop} {tar : TA} {E : XK} {ps : List P}
/-- the box handed on, from a slot -/
theorem ev_bx {x kc n : Nat} {c : MC} (e : Γ[x]? = some (some (.c kc))) (h : EPs K tar Γ M ps) (hc : M[kc]? = some c) (hb : Bx n c) (y : α) (ex : ps = args y) (hp : pre y) (hn : n + cost y ≤ 1000000000) (hr : ∀ p c', res y p → Bx (n + cost y) c' → Φ (M.set kc c') (.v p)) :
    EV K (tCall (BF K args pre cost res) [] E (tCons (tVar x) tar)) Γ M Φ := ev_callB (ea_cons (ev_var e (ea_ep h ⟨kc, c, n, y, by rw [ex], hc, hb, hn, hp, hr⟩)))
end
end Z
set_option maxRecDepth 100000
set_option maxHeartbeats 4000000
/-! max of a tuple of numbers; lists put together, to be cells; promises called by keywords. -/
namespace Z
open PySem PySem.Spec PyProof.Rows L2
theorem hold_ints {h : Heap} : ∀ {ns : List Int} {us : List Value}, Vals (ns.map V.int) us → PySem.W.HoldAll h us ns
  | [], _, .nil => ⟨_, .nil⟩
  | n :: ns, _, .cons r rr => by
    obtain ⟨t, e⟩ := r
    subst e
    obtain ⟨as, h2⟩ := hold_ints rr
    exact ⟨_, .cons (.int n t) h2⟩
def rMaxT (K : PySem.W.Frag) : List V → Hp → VK → Prop := fun xs H Q => ∃ (a : Addr) (ns : List Int), xs = [.ref a] ∧ SqT K H a (ns.map V.int) ∧ 0 < ns.length ∧ ∀ m : Int, Q (.int m) H
theorem call_maxT {X : Cx} (hc : X.calm = true) (hu : X.A.units + 64 < cLine) : CallR X (.builtin "max") (rMaxT X.K) := by
  intro pins s σ H vs us Q I r h
  obtain ⟨a, ns, rfl, hs, hne, q⟩ := h
  obtain ⟨its, rv, p, hz⟩ := I.tuple hs
  rw [Vals.ref1 r]
  cases ns with
  | nil => simp at hne
  | cons n ns =>
    refine PySem.W.max_tuple_datum (α := Int) (I.ok.hd hc) (show s.heap.IsTuple a its.toArray from p) (x := n) (xs := ns) (by simpa using hold_ints rv) (by show X.A.units + 1 + 0 < cLine; omega) fun i v h' tk hi hh hk => ?_
    obtain ⟨as, hr⟩ := hh
    have hv : ∃ m t, v = Value.int m t := by
      cases hr with
      | _ => exact ⟨_, _, rfl⟩
    obtain ⟨m, t, e⟩ := hv
    subst e
    exact ⟨.int m, H, I.kept hk, ⟨_, rfl⟩, q m⟩
section
variable {K : PySem.W.Frag} {Γ : Env} {M : Mem} {ta tb : TE} {tar t tk : TA} {ps qs : List P} {Φ : Mem → D → Prop} {E : XK}
theorem en_plus (ha : EP K ta Γ M (.lst ps)) (hb : EP K tb Γ M (.lst qs)) (hl : ps.length + qs.length ≤ sizeLine) : EN K (tOp (rPlus K) ta tb) Γ M fun M' ds => M' = M ∧ ds = (ps ++ qs).map .v := fun X A σ H s Q q =>
  ha X A σ H s _ fun A1 M1 v1 d1 H1 t1 s1 r1 ⟨e1, e2⟩ => by
    subst e1 e2
    refine hb X A1 σ H1 s1 _ fun A2 M2 v2 d2 H2 t2 s2 r2 ⟨e1, e2⟩ => ?_
    subst e1 e2
    obtain ⟨a, xs, e, ha', na, ra⟩ := (t2.rp r1.toRp).lstOf
    obtain ⟨b, ys, e', hb', nb, rb⟩ := r2.toRp.lstOf
    subst e e'
    refine .inr (.inr (.inl ⟨a, b, xs, ys, rfl, rfl, ha', hb', by rw [Rps.length ra, Rps.length rb]; exact hl, fun p hp => ?_⟩))
    have hp0 : H p = none := by
      cases e : H p with
      | none => rfl
      | some o =>
        obtain ⟨u, q⟩ := (t1.trans t2).stay p o e
        rw [hp] at q
        cases q
    have tx : TrX X A2 H2 (X1 X p) A2 (upd H2 p (.lst (xs ++ ys))) := (Tr.ofSame (same_new hp)).x.more hp
    exact q A2 _ p (xs ++ ys) _ _ ((t1.trans t2).trans (.ofSame (same_new hp))) hp0 (s2.fresh hp) upd_same (.ofRps (tx.rps (ra.append rb))) ⟨rfl, rfl⟩
theorem ev_callN {α : Type} {args : α → List P} {pre : α → Prop} {res : α → P → Prop} {n m : Nat} {ix : List Nat} (h : EPs K t Γ M ps) (hk : EPs K tk Γ M qs) (l1 : ps.length = n) (l2 : qs.length = m) (x : α) (ex : perm ix (ps ++ qs) = args x) (hp : pre x) (hr : ∀ p, res x p → Φ M (.v p)) :
    EV K (tCallN n m (PF K args pre res) (fun vs zs => perm ix (vs ++ zs)) E t tk) Γ M Φ := fun X A σ H s Q q =>
  h X A σ H s _ fun A1 M1 vs ds H1 t1 s1 r ⟨e1, e2⟩ => by
    subst e1 e2
    refine hk X A1 σ H1 s1 _ fun A2 M2 zs es H2 t2 s2 r2 ⟨e1, e2⟩ => ?_
    subst e1 e2
    have r3 := (t2.rds r).toRps
    have r4 := r2.toRps
    refine ⟨by rw [Rps.length r3, l1], by rw [Rps.length r4, l2], XA X A2, x, s2.ce.xa, by rw [← ex]; exact (Rps.append r3 r4).perm ix, hp, fun v p H' sm rp hr' => ?_⟩
    exact q A2 _ v (.v p) H' ((t1.trans t2).trans (.ofSame sm)) (s2.same sm) (.v rp) (hr p hr')
/-- cells that a callee made (called by keywords), as data -/
theorem ev_callNCP {α : Type} {args : α → List P} {pre : α → Prop} {res : α → List MC → D → Prop} {n m : Nat} {ix : List Nat} (h : EPs K t Γ M ps) (hk : EPs K tk Γ M qs) (l1 : ps.length = n) (l2 : qs.length = m) (x : α) (ex : perm ix (ps ++ qs) = args x) (hp : pre x)
    (f : ∀ cs d, res x cs d → ∃ p, Fz 0 cs d p ∧ Φ M (.v p)) : EV K (tCallN n m (PC K args pre res) (fun vs zs => perm ix (vs ++ zs)) E t tk) Γ M Φ := fun X A σ H s Q q =>
  h X A σ H s _ fun A1 M1 vs ds H1 t1 s1 r ⟨e1, e2⟩ => by
    subst e1 e2
    refine hk X A1 σ H1 s1 _ fun A2 M2 zs es H2 t2 s2 r2 ⟨e1, e2⟩ => ?_
    subst e1 e2
    have r3 := (t2.rds r).toRps
    have r4 := r2.toRps
    refine ⟨by rw [Rps.length r3, l1], by rw [Rps.length r4, l2], XA X A2, x, s2.ce.xa, by rw [← ex]; exact (Rps.append r3 r4).perm ix, hp, fun v B cs d H' sm hb c rv hr => ?_⟩
    obtain ⟨p, fz, f2⟩ := f cs d hr
    exact q _ _ v _ H' ((t1.trans t2).trans (.ofSame sm)) (s2.same sm) (.v (Fz.rp0 c fz rv)) f2
end
def rMaxB (K : PySem.W.Frag) : List V → Hp → VK → Prop := fun xs H Q => rMaxA K xs H Q ∨ rMaxT K xs H Q
theorem call_maxB {X : Cx} (hc : X.calm = true) (hu : X.A.units + 64 < cLine) : CallR X (.builtin "max") (rMaxB X.K) := (call_maxA hc).or (call_maxT hc hu)
theorem ev_maxT {K : PySem.W.Frag} {Γ : Env} {M : Mem} {tar : TA} {ns : List Int} {Φ : Mem → D → Prop} (h : EPs K tar Γ M [.tup (ns.map .int)]) (hn : 0 < ns.length) (hr : ∀ m : Int, Φ M (.v (.int m))) : EV K (tCB (rMaxB K) tar) Γ M Φ := fun X A σ H s Q q =>
  h X A σ H s _ fun A1 M1 v1 d1 H1 t1 s1 r1 ⟨e1, e2⟩ => by
    subst e1 e2
    have rr := r1.toRps
    cases rr with
    | cons r2 r3 =>
      cases r3
      obtain ⟨a, xs, e, hq, rx⟩ := r2.tupOf
      subst e
      rw [Rps.ints rx] at hq
      exact .inr ⟨a, ns, rfl, hq, hn, fun m => q A1 _ _ _ H1 t1 s1 (.v (.int m)) (hr m)⟩
end Z
set_option maxRecDepth 100000
set_option maxHeartbeats 4000000
/-! an item of a written dict -/
namespace Z
open PySem PySem.Spec PyProof.Rows L2
section
variable {K : PySem.W.Frag} {Γ : Env} {M : Mem}
def EPp (K : PySem.W.Frag) (Γ : Env) (M : Mem) : List (TE × TE) → List (Str × P) → Prop
  | [], [] => True
  | (tk, tv) :: r, (k, p) :: ps => tk = tC (.str k) ∧ EP K tv Γ M p ∧ EPp K Γ M r ps
  | _, _ => False
def kvz (ks : List (Str × P)) (vs : List V) : List (Key × V) := (ks.map fun p => (Sum.inr p.1 : Key)).zip vs
theorem pairs_run {kps : List (Str × P)} : ∀ {trs : List (TE × TE)}, EPp K Γ M trs kps → ∀ (X : Addr → Prop) (A : List Addr) (σ : L2.St) (H : Hp), St K X A M Γ σ H → ∀ Q : List (V × V) → Hp → Prop,
    (∀ A' H' vs, Tr A H A' H' → St K X A' M Γ σ H' → Rps K (XA X A') H' vs (kps.map (·.2)) → Q ((kvz kps vs).map fun kv => (kV kv.1, kv.2)) H') → tPairs trs σ H Q := by
  induction kps with
  | nil =>
    intro trs h X A σ H s Q q
    cases trs with
    | nil => exact q A H [] .refl s .nil
    | cons a r => obtain ⟨a1, a2⟩ := a; exact h.elim
  | cons kp ps ih =>
    intro trs h X A σ H s Q q
    obtain ⟨k, p⟩ := kp
    cases trs with
    | nil => exact h.elim
    | cons a r =>
      obtain ⟨tk, tv⟩ := a
      obtain ⟨e, h1, t⟩ := h
      subst e
      refine h1 X A σ H s _ fun A1 M1 v1 d1 H1 t1 s1 r1 ⟨e1, e2⟩ => ?_
      subst e1 e2
      refine ih t X A1 σ H1 s1 _ fun A2 H2 vs t2 s2 r2 => ?_
      exact q A2 H2 (v1 :: vs) (t1.trans t2) s2 (.cons (t2.rp r1.toRp) r2)
theorem ep_dlit {trs : List (TE × TE)} {kps : List (Str × P)} {ty : TE} {w : Str} {i : Nat} {z : P} (h : EPp K Γ M trs kps) (hy : EP K ty Γ M (.str w)) (hl : kps.length ≤ 15) (hz : (kps.map (·.2))[i]? = some z)
    (hs : ∀ vs : List V, vs.length = kps.length → ∃ v, vs[i]? = some v ∧ valV (mergeK [] (kvz kps vs)) (.inr w) = some v) : EP K (tDGet (tDisp trs) ty) Γ M z := fun X A σ H s Q q => by
  intro p hp
  have hx : ¬ X p := fun z => by
    obtain ⟨o, e⟩ := s.ce.xs p z
    rw [hp] at e
    cases e
  have s0 : St K (X1 X p) A M Γ σ (upd H p (.dK [])) := s.fresh hp
  refine pairs_run h (X1 X p) A σ _ s0 _ fun A1 H1 vs t1 s1 r1 => ?_
  have hpA : p ∉ A1 := s1.ce.dj p (.inr rfl)
  have hpA0 : p ∉ A := s0.ce.dj p (.inr rfl)
  have d1 : H1 p = some (.dK []) := t1.keep p _ upd_same hpA0
  have hlen : vs.length = kps.length := by rw [Rps.length r1, List.length_map]
  refine ⟨d1, kvz kps vs, rfl, ?_, ?_⟩
  · unfold kvz
    rw [List.length_zip, List.length_map]
    omega
  have s2 : St K (X1 X p) A1 M Γ σ (upd H1 p (.dK (mergeK [] (kvz kps vs)))) := s1.updX (.inr rfl)
  refine hy (X1 X p) A1 σ _ s2 _ fun A2 M2 v2 d2 H2 t2 s3 r2 ⟨e1, e2⟩ => ?_
  subst e1 e2
  have d2 : H2 p = some (.dK (mergeK [] (kvz kps vs))) := t2.keep p _ upd_same hpA
  obtain ⟨v, hv, hval⟩ := hs vs hlen
  obtain ⟨v', hv', rz⟩ := Rps.get r1 hz
  rw [hv] at hv'
  cases hv'
  have ev : v2 = kV (.inr w) := by
    have := r2.toRp
    cases this
    rfl
  have rz2 : Rp K (XA (X1 X p) A1) (upd H1 p (.dK (mergeK [] (kvz kps vs)))) v z := rz.mono (fun a o e n => by
    rw [upd_ne (fun z => n (.inl (.inr z)))]
    exact e) fun a o e n => n
  have rz3 := t2.rp rz2
  have tr : Tr A H A2 H2 := by
    obtain ⟨B1, e1, f1⟩ := t1.ext
    obtain ⟨B2, e2, f2⟩ := t2.ext
    refine ⟨⟨B1 ++ B2, by rw [e2, e1, List.append_assoc], fun b hb => ?_⟩, fun a o e n => ?_, fun a o e => ?_⟩
    · have nb : b ≠ p := fun z => by
        subst z
        rcases List.mem_append.mp hb with h | h
        · exact hpA (by rw [e1]; exact List.mem_append_right _ h)
        · exact (s3.ce.dj b (.inr rfl)) (by rw [e2]; exact List.mem_append_right _ h)
      rcases List.mem_append.mp hb with h | h
      · have := f1 b h
        rwa [upd_ne nb] at this
      · have := f2 b h
        rw [upd_ne nb] at this
        cases e : H b with
        | none => rfl
        | some o =>
          obtain ⟨u, hu⟩ := t1.stay b o (by rw [upd_ne nb]; exact e)
          rw [this] at hu
          cases hu
    · have na : a ≠ p := ne_of_none e hp
      have k1 := t1.keep a o (by rw [upd_ne na]; exact e) n
      by_cases hA : a ∈ A1
      · rw [e1] at hA
        rcases List.mem_append.mp hA with h | h
        · exact absurd h n
        · have := f1 a h
          rw [upd_ne na, e] at this
          cases this
      · exact t2.keep a o (by rw [upd_ne na]; exact k1) hA
    · have na : a ≠ p := ne_of_none e hp
      obtain ⟨u, hu⟩ := t1.stay a o (by rw [upd_ne na]; exact e)
      exact t2.stay a u (by rw [upd_ne na]; exact hu)
  refine ⟨p, v, rfl, .inl ⟨_, .inr w, .inl d2, ev, hval.symm⟩, ?_⟩
  exact q A2 _ v (.v z) H2 tr (s3.lessX fun _ z => .inl z) (.v (rz3.less fun a z => z.elim (fun z => .inl (.inl z)) .inr)) ⟨rfl, rfl⟩
end
end Z
set_option maxRecDepth 100000
set_option maxHeartbeats 4000000
/-! min of a tuple of numbers; cells forgotten -/
namespace Z
open PySem PySem.Spec PyProof.Rows L2
theorem nrm_drop {K : PySem.W.Frag} {n : Nat} {Γ Γ' : Z.Env} {M0 C : Mem} (hn : n ≤ M0.length) (hl : Γ'.length = Γ.length) (hM : M0.all (lowC M0.length) = true) (hΓ : ∀ (i : Nat) (d : D), Γ'[i]? = some (some d) → Γ[i]? = some (some d) ∧ lowD M0.length d = true) :
    Nrm K n Γ (M0 ++ C) Γ' M0 := fun X A0 A H0 H σ l t s => by
  obtain ⟨B, eA, fB⟩ := t.ext
  have lenA : A.length = M0.length + C.length := by rw [s.ce.len]; simp
  have tk : A.take M0.length = A0 ++ B.take (M0.length - n) := by
    rw [eA, List.take_append, List.take_of_length_le (by omega), l]
  refine ⟨A.take M0.length, ⟨⟨B.take (M0.length - n), tk, fun b hb => fB b (List.mem_of_mem_take hb)⟩, t.keep, t.stay⟩, ⟨s.ce.nd.sublist (List.take_sublist _ _), by rw [List.length_take]; omega, fun k a m e1 e2 => ?_, s.ce.xs, fun a z h => s.ce.dj a z (List.mem_of_mem_take h)⟩, by rw [s.sl.len, hl], fun i d e => ?_⟩
  · have hk : k < M0.length := (List.getElem?_eq_some_iff.mp e2).1
    rw [List.getElem?_take_of_lt hk] at e1
    have h := s.ce.at_ k a m e1 (by rw [List.getElem?_append_left hk]; exact e2)
    have lw := List.all_eq_true.mp hM m (List.mem_of_getElem? e2)
    cases m with
    | l ds => obtain ⟨xs, h1, h2⟩ := h; exact ⟨xs, h1, h2.low lw⟩
    | o C ks ds => obtain ⟨dx, xs, h1, h2, h3⟩ := h; exact ⟨dx, xs, h1, h2, h3.low lw⟩
  · obtain ⟨e1, lw⟩ := hΓ i d e
    obtain ⟨v, e2, r⟩ := s.sl.at_ i d e1
    exact ⟨v, e2, r.low lw⟩

theorem minOf_int : ∀ (xs : List Int) (x : Int), (PySem.W.minOf x xs = x ∨ PySem.W.minOf x xs ∈ xs) ∧ PySem.W.minOf x xs ≤ x ∧ ∀ y ∈ xs, PySem.W.minOf x xs ≤ y
  | [], x => ⟨.inl rfl, Int.le_refl _, fun y h => by cases h⟩
  | z :: zs, x => by
    have e : PySem.W.minOf x (z :: zs) = PySem.W.minOf (if decide (z < x) = true then z else x) zs := rfl
    obtain ⟨h1, h2, h3⟩ := minOf_int zs (if decide (z < x) = true then z else x)
    rw [e]
    by_cases h : z < x
    · rw [if_pos (decide_eq_true h)] at h1 h2 h3 ⊢
      refine ⟨.inr (h1.elim (fun e => by rw [e]; exact List.mem_cons_self ..) (fun m => List.mem_cons_of_mem _ m)), by omega, fun y hy => ?_⟩
      rcases List.mem_cons.mp hy with rfl | hy
      · exact h2
      · exact h3 y hy
    · have h' : ¬ decide (z < x) = true := fun w => h (of_decide_eq_true w)
      rw [if_neg h'] at h1 h2 h3 ⊢
      refine ⟨h1.elim .inl (fun m => .inr (List.mem_cons_of_mem _ m)), h2, fun y hy => ?_⟩
      rcases List.mem_cons.mp hy with rfl | hy
      · omega
      · exact h3 y hy
def rMinT (K : PySem.W.Frag) : List V → Hp → VK → Prop := fun xs H Q => ∃ (a : Addr) (ns : List Int), xs = [.ref a] ∧ SqT K H a (ns.map V.int) ∧ 0 < ns.length ∧ Q (.int (minL ns)) H
theorem call_minT {X : Cx} (hc : X.calm = true) (hu : X.A.units + 64 < cLine) : CallR X (.builtin "min") (rMinT X.K) := by
  intro pins s σ H vs us Q I r h
  obtain ⟨a, ns, rfl, hs, hne, q⟩ := h
  obtain ⟨its, rv, p, hz⟩ := I.tuple hs
  rw [Vals.ref1 r]
  cases ns with
  | nil => simp at hne
  | cons n ns =>
    refine PySem.W.min_tuple_datum (α := Int) (I.ok.hd hc) (show s.heap.IsTuple a its.toArray from p) (x := n) (xs := ns) (by simpa using hold_ints rv) (by show X.A.units + 1 + 0 < cLine; omega) fun i v h' tk hi hh hk => ?_
    obtain ⟨h1, h2, h3⟩ := minOf_int ns n
    have hm : PySem.W.minOf n ns ∈ n :: ns := h1.elim (fun e => by rw [e]; exact List.mem_cons_self ..) (fun m => List.mem_cons_of_mem _ m)
    have hb : ∀ y ∈ n :: ns, PySem.W.minOf n ns ≤ y := fun y hy => by
      rcases List.mem_cons.mp hy with rfl | hy
      · exact h2
      · exact h3 y hy
    have em : PySem.W.minOf n ns = minL (n :: ns) := minL_of hm hb
    rw [em] at hh
    obtain ⟨as, hr⟩ := hh
    have hv : ∃ t, v = Value.int (minL (n :: ns)) t := by
      cases hr with
      | _ => exact ⟨_, rfl⟩
    obtain ⟨t, e⟩ := hv
    subst e
    exact ⟨.int (minL (n :: ns)), H, I.kept hk, ⟨_, rfl⟩, q⟩
def rMinB (K : PySem.W.Frag) : List V → Hp → VK → Prop := fun xs H Q => rMinA K xs H Q ∨ rMinT K xs H Q
theorem call_minB {X : Cx} (hc : X.calm = true) (hu : X.A.units + 64 < cLine) : CallR X (.builtin "min") (rMinB X.K) := (call_minA hc).or (call_minT hc hu)
theorem rc_minT {K : PySem.W.Frag} {ns : List Int} (h : 0 < ns.length) : RC K (rMinB K) [.tup (ns.map .int)] (.int (minL ns)) := fun X H xs hx r Q k => by
  cases r with
  | cons r1 r2 =>
    cases r2
    obtain ⟨a, ys, e, hq, rx⟩ := r1.tupOf
    subst e
    rw [Rps.ints rx] at hq
    exact .inr ⟨a, ns, rfl, hq, h, k _ H (Same.refl H) (.int _)⟩
end Z
set_option maxRecDepth 100000
set_option maxHeartbeats 4000000
namespace R35
open PySem PySem.Spec PyProof.Rows L2 Z
def top (i : Nat) : Stmt := PySem.Challenge.pw_twoeyes_k35_races_far.main.body.getD i (.Pass ⟨0, 0, 0, 0⟩)
structure Mo (K : PySem.W.Frag) (mg : Str → Option Value) : Prop where
  n_abs : mg "abs" = none
  n_bool : mg "bool" = none
  n_enumerate : mg "enumerate" = none
  n_int : mg "int" = none
  n_isinstance : mg "isinstance" = none
  n_len : mg "len" = none
  n_list : mg "list" = none
  n_max : mg "max" = none
  n_min : mg "min" = none
  n_range : mg "range" = none
  n_str : mg "str" = none
  n_sum : mg "sum" = none
  n_tuple : mg "tuple" = none
  g_BLACK : ∃ t, mg "BLACK" = some (.int 1 t)
  g_SHARED_PLACE : ∃ t, mg "SHARED_PLACE" = some (.int 2 t)
  g_WHITE : ∃ t, mg "WHITE" = some (.int 2 t)
  g_EYE : ∃ t, mg "EYE" = some (.str "eye" t)
  g_OUTSIDE : ∃ t, mg "OUTSIDE" = some (.str "outside" t)
  g_SHARED : ∃ t, mg "SHARED" = some (.str "shared" t)
  g_Race : mg "Race" = some (.ref (He.ga K "Race"))
abbrev s_is_integer : Stmt := top 14
theorem sc_is_integer : FnScope ["value"] ["value"] (defScope s_is_integer) := ⟨rfl, rfl, rfl, by decide +kernel, rfl, by decide +kernel, by decide +kernel⟩
def t_is_integer (K : PySem.W.Frag) : TS :=
  (tRet (tAndV (tCB (rIsi K) (tCons (tVar 0) (tCons (tC (.ty "int")) tNil))) (tNotV (tCB (rIsi K) (tCons (tVar 0) (tCons (tC (.ty "bool")) tNil))))))
theorem dv_is_integer {P : Program} {w : World} {K : PySem.W.Frag} {mg : Str → Option Value} {base : Heap} {k : Nat} {f : Addr} (m : Mo K mg) :
    Dv P w K mg base (k + 1) ["value"] "is_integer" (defScope s_is_integer) f (defBody s_is_integer) (t_is_integer K) := by
  intro cdv A outer s H E hr
  have sc := sc_is_integer
  exact (pss_one (ps_ret (pe_and (pe_callB call_isi rfl m.n_isinstance boot_isinstance (pa_cons (pv 0) (pa_cons (pe_bltn rfl m.n_int boot_int rfl) pa_nil))) (pe_one (pe_not (pe_callB call_isi rfl m.n_isinstance boot_isinstance (pa_cons (pv 0) (pa_cons (pe_bltn rfl m.n_bool boot_bool rfl) pa_nil))))))))
abbrev s_is_count : Stmt := top 15
theorem sc_is_count : FnScope ["value"] ["value"] (defScope s_is_count) := ⟨rfl, rfl, rfl, by decide +kernel, rfl, by decide +kernel, by decide +kernel⟩
def t_is_count (K : PySem.W.Frag) (sp_is_integer : Sp) : TS :=
  (tRet (tAndV (tCall sp_is_integer [] E0 (tCons (tVar 0) tNil)) (tOp (rI0 fun i j => .bl (decide (j ≤ i))) (tVar 0) (tC (.int 0)))))
theorem dv_is_count {P : Program} {w : World} {K : PySem.W.Frag} {mg : Str → Option Value} {base : Heap} {k : Nat} {f : Addr} {sp_is_integer : Sp} (m : Mo K mg) (c_is_integer : Cal P w K mg base k "is_integer" ["value"] sp_is_integer) :
    Dv P w K mg base (k + 1) ["value"] "is_count" (defScope s_is_count) f (defBody s_is_count) (t_is_count K sp_is_integer) := by
  intro cdv A outer s H E hr
  have sc := sc_is_count
  exact (pss_one (ps_ret (pe_and (pe_cal c_is_integer (hr.mono (by omega)) rfl (pa_cons (pv 0) pa_nil)) (pe_one (pe_cmpR op_ge (pv 0) pe_int (nomark _))))))
abbrev s_is_between : Stmt := top 16
theorem sc_is_between : FnScope ["value", "least", "most"] ["value", "least", "most"] (defScope s_is_between) := ⟨rfl, rfl, rfl, by decide +kernel, rfl, by decide +kernel, by decide +kernel⟩
def t_is_between (K : PySem.W.Frag) (sp_is_integer : Sp) : TS :=
  (tRet (tAndV (tCall sp_is_integer [] E0 (tCons (tVar 0) tNil)) (tChain (rI0 fun i j => .bl (decide (i ≤ j))) (rI0 fun i j => .bl (decide (i ≤ j))) (tVar 1) (tVar 0) (tVar 2))))
theorem dv_is_between {P : Program} {w : World} {K : PySem.W.Frag} {mg : Str → Option Value} {base : Heap} {k : Nat} {f : Addr} {sp_is_integer : Sp} (m : Mo K mg) (c_is_integer : Cal P w K mg base k "is_integer" ["value"] sp_is_integer) :
    Dv P w K mg base (k + 1) ["value", "least", "most"] "is_between" (defScope s_is_between) f (defBody s_is_between) (t_is_between K sp_is_integer) := by
  intro cdv A outer s H E hr
  have sc := sc_is_between
  exact (pss_one (ps_ret (pe_and (pe_cal c_is_integer (hr.mono (by omega)) rfl (pa_cons (pv 0) pa_nil)) (pe_one (pe_chain op_le op_le (pv 1) (pv 0) (pv 2))))))
abbrev s_is_color : Stmt := top 17
theorem sc_is_color : FnScope ["value"] ["value"] (defScope s_is_color) := ⟨rfl, rfl, rfl, by decide +kernel, rfl, by decide +kernel, by decide +kernel⟩
def t_is_color (K : PySem.W.Frag) (sp_is_between : Sp) : TS :=
  (tRet (tCall sp_is_between [] E0 (tCons (tVar 0) (tCons (tC (.int 1)) (tCons (tC (.int 2)) tNil)))))
theorem dv_is_color {P : Program} {w : World} {K : PySem.W.Frag} {mg : Str → Option Value} {base : Heap} {k : Nat} {f : Addr} {sp_is_between : Sp} (m : Mo K mg) (c_is_between : Cal P w K mg base k "is_between" ["value", "least", "most"] sp_is_between) :
    Dv P w K mg base (k + 1) ["value"] "is_color" (defScope s_is_color) f (defBody s_is_color) (t_is_color K sp_is_between) := by
  intro cdv A outer s H E hr
  have sc := sc_is_color
  obtain ⟨_, g_BLACK⟩ := m.g_BLACK
  obtain ⟨_, g_WHITE⟩ := m.g_WHITE
  exact (pss_one (ps_ret (pe_cal c_is_between (hr.mono (by omega)) rfl (pa_cons (pv 0) (pa_cons (pe_glob rfl g_BLACK ⟨_, rfl⟩) (pa_cons (pe_glob rfl g_WHITE ⟨_, rfl⟩) pa_nil))))))
abbrev s_other_color : Stmt := top 18
theorem sc_other_color : FnScope ["color"] ["color"] (defScope s_other_color) := ⟨rfl, rfl, rfl, by decide +kernel, rfl, by decide +kernel, by decide +kernel⟩
def t_other_color (K : PySem.W.Frag) : TS :=
  (tRet (tOp (rI0 fun i j => .int (i - j)) (tOp (rPlus K) (tC (.int 1)) (tC (.int 2))) (tVar 0)))
theorem dv_other_color {P : Program} {w : World} {K : PySem.W.Frag} {mg : Str → Option Value} {base : Heap} {k : Nat} {f : Addr} (m : Mo K mg) :
    Dv P w K mg base (k + 1) ["color"] "other_color" (defScope s_other_color) f (defBody s_other_color) (t_other_color K) := by
  intro cdv A outer s H E hr
  have sc := sc_other_color
  obtain ⟨_, g_BLACK⟩ := m.g_BLACK
  obtain ⟨_, g_WHITE⟩ := m.g_WHITE
  exact (pss_one (ps_ret (pe_op op_sub (pe_op op_plus (pe_glob rfl g_BLACK ⟨_, rfl⟩) (pe_glob rfl g_WHITE ⟨_, rfl⟩)) (pv 0))))
abbrev s_check_color : Stmt := top 20
theorem sc_check_color : FnScope ["color"] ["color"] (defScope s_check_color) := ⟨rfl, rfl, rfl, by decide +kernel, rfl, by decide +kernel, by decide +kernel⟩
def t_check_color (K : PySem.W.Frag) (sp_is_color : Sp) : TS :=
  (tIfS (tNot (tB (tCall sp_is_color [] E0 (tCons (tVar 0) tNil)))) tNever
    tNext)
theorem dv_check_color {P : Program} {w : World} {K : PySem.W.Frag} {mg : Str → Option Value} {base : Heap} {k : Nat} {f : Addr} {sp_is_color : Sp} (m : Mo K mg) (c_is_color : Cal P w K mg base k "is_color" ["value"] sp_is_color) :
    Dv P w K mg base (k + 1) ["color"] "check_color" (defScope s_check_color) f (defBody s_check_color) (t_check_color K sp_is_color) := by
  intro cdv A outer s H E hr
  have sc := sc_check_color
  exact (pss_one (ps_if (pt_not (pt_val (pe_cal c_is_color (hr.mono (by omega)) rfl (pa_cons (pv 0) pa_nil)))) (pss_one ps_never)
    pss_nil))
abbrev s_Race__init__ : Stmt := inClass (top 26) 0
theorem sc_Race__init__ : FnScope ["self", "black", "white", "shared", "black_eye", "white_eye"] ["self", "black", "white", "shared", "black_eye", "white_eye"] (defScope s_Race__init__) := ⟨rfl, rfl, rfl, by decide +kernel, rfl, by decide +kernel, by decide +kernel⟩
def t_Race__init__ (K : PySem.W.Frag) (sp_is_count : Sp) : TS :=
  (tSeq (tIfS (tNot (tB (tCall sp_is_count [] E0 (tCons (tVar 1) tNil)))) tNever
    tNext)
    (tSeq (tIfS (tNot (tB (tCall sp_is_count [] E0 (tCons (tVar 2) tNil)))) tNever
    tNext)
    (tSeq (tIfS (tNot (tB (tCall sp_is_count [] E0 (tCons (tVar 3) tNil)))) tNever
    tNext)
    (tSeq (tIfS (tNot (tB (tCall sp_is_count [] E0 (tCons (tVar 4) tNil)))) tNever
    tNext)
    (tSeq (tIfS (tNot (tB (tCall sp_is_count [] E0 (tCons (tVar 5) tNil)))) tNever
    tNext)
    (tSeq (tIfS (tTest (tOp (rEqA K) (tOp (rPlus K) (tOp (rPlus K) (tVar 1) (tVar 3)) (tVar 4)) (tC (.int 0)))) tNever
    tNext)
    (tSeq (tIfS (tTest (tOp (rEqA K) (tOp (rPlus K) (tOp (rPlus K) (tVar 2) (tVar 3)) (tVar 5)) (tC (.int 0)))) tNever
    tNext)
    (tSeq (sFld K (tVar 0) (tVar 1) "black")
    (tSeq (sFld K (tVar 0) (tVar 2) "white")
    (tSeq (sFld K (tVar 0) (tVar 3) "shared")
    (tSeq (sFld K (tVar 0) (tVar 4) "black_eye")
    (sFld K (tVar 0) (tVar 5) "white_eye"))))))))))))
theorem dv_Race__init__ {P : Program} {w : World} {K : PySem.W.Frag} {mg : Str → Option Value} {base : Heap} {k : Nat} {f : Addr} {sp_is_count : Sp} (m : Mo K mg) (c_is_count : Cal P w K mg base k "is_count" ["value"] sp_is_count) :
    Dv P w K mg base (k + 1) ["self", "black", "white", "shared", "black_eye", "white_eye"] "Race.__init__" (defScope s_Race__init__) f (defBody s_Race__init__) (t_Race__init__ K sp_is_count) := by
  intro cdv A outer s H E hr
  have sc := sc_Race__init__
  exact (pss_cons (ps_if (pt_not (pt_val (pe_cal c_is_count (hr.mono (by omega)) rfl (pa_cons (pv 1) pa_nil)))) (pss_one ps_never)
    pss_nil)
    (pss_cons (ps_if (pt_not (pt_val (pe_cal c_is_count (hr.mono (by omega)) rfl (pa_cons (pv 2) pa_nil)))) (pss_one ps_never)
    pss_nil)
    (pss_cons (ps_if (pt_not (pt_val (pe_cal c_is_count (hr.mono (by omega)) rfl (pa_cons (pv 3) pa_nil)))) (pss_one ps_never)
    pss_nil)
    (pss_cons (ps_if (pt_not (pt_val (pe_cal c_is_count (hr.mono (by omega)) rfl (pa_cons (pv 4) pa_nil)))) (pss_one ps_never)
    pss_nil)
    (pss_cons (ps_if (pt_not (pt_val (pe_cal c_is_count (hr.mono (by omega)) rfl (pa_cons (pv 5) pa_nil)))) (pss_one ps_never)
    pss_nil)
    (pss_cons (ps_if (pt_cmpR (op_eqA hr.units) (pe_op op_plus (pe_op op_plus (pv 1) (pv 3)) (pv 4)) pe_int (nomark _)) (pss_one ps_never)
    pss_nil)
    (pss_cons (ps_if (pt_cmpR (op_eqA hr.units) (pe_op op_plus (pe_op op_plus (pv 2) (pv 3)) (pv 5)) pe_int (nomark _)) (pss_one ps_never)
    pss_nil)
    (pss_cons (ps_fld (pv 0) (pv 1) rfl)
    (pss_cons (ps_fld (pv 0) (pv 2) rfl)
    (pss_cons (ps_fld (pv 0) (pv 3) rfl)
    (pss_cons (ps_fld (pv 0) (pv 4) rfl)
    (pss_one (ps_fld (pv 0) (pv 5) rfl)))))))))))))
abbrev s_counts_of : Stmt := top 27
theorem sc_counts_of : FnScope ["race"] ["race"] (defScope s_counts_of) := ⟨rfl, rfl, rfl, by decide +kernel, rfl, by decide +kernel, by decide +kernel⟩
def t_counts_of (K : PySem.W.Frag) : TS :=
  (tRet (tTup (tCons (tFld K (tVar 0) "black") (tCons (tFld K (tVar 0) "white") (tCons (tFld K (tVar 0) "shared") (tCons (tFld K (tVar 0) "black_eye") (tCons (tFld K (tVar 0) "white_eye") tNil)))))))
theorem dv_counts_of {P : Program} {w : World} {K : PySem.W.Frag} {mg : Str → Option Value} {base : Heap} {k : Nat} {f : Addr} (m : Mo K mg) :
    Dv P w K mg base (k + 1) ["race"] "counts_of" (defScope s_counts_of) f (defBody s_counts_of) (t_counts_of K) := by
  intro cdv A outer s H E hr
  have sc := sc_counts_of
  exact (pss_one (ps_ret (pe_tup (pa_cons (pe_fld (pv 0) rfl) (pa_cons (pe_fld (pv 0) rfl) (pa_cons (pe_fld (pv 0) rfl) (pa_cons (pe_fld (pv 0) rfl) (pa_cons (pe_fld (pv 0) rfl) pa_nil))))))))
abbrev s_Race__eq__ : Stmt := inClass (top 26) 1
theorem sc_Race__eq__ : FnScope ["self", "other"] ["self", "other"] (defScope s_Race__eq__) := ⟨rfl, rfl, rfl, by decide +kernel, rfl, by decide +kernel, by decide +kernel⟩
def t_Race__eq__ (K : PySem.W.Frag) (sp_counts_of : Sp) : TS :=
  (tRet (tAndV (tCB (rIsi K) (tCons (tVar 1) (tCons (tC (.ref (He.ga K "Race"))) tNil))) (tOp (rEqA K) (tCall sp_counts_of [] E0 (tCons (tVar 0) tNil)) (tCall sp_counts_of [] E0 (tCons (tVar 1) tNil)))))
theorem dv_Race__eq__ {P : Program} {w : World} {K : PySem.W.Frag} {mg : Str → Option Value} {base : Heap} {k : Nat} {f : Addr} {sp_counts_of : Sp} (m : Mo K mg) (c_counts_of : Cal P w K mg base k "counts_of" ["race"] sp_counts_of) :
    Dv P w K mg base (k + 1) ["self", "other"] "Race.__eq__" (defScope s_Race__eq__) f (defBody s_Race__eq__) (t_Race__eq__ K sp_counts_of) := by
  intro cdv A outer s H E hr
  have sc := sc_Race__eq__
  exact (pss_one (ps_ret (pe_and (pe_callB call_isi rfl m.n_isinstance boot_isinstance (pa_cons (pv 1) (pa_cons (pe_glob rfl m.g_Race rfl) pa_nil))) (pe_one (pe_cmpR (op_eqA hr.units) (pe_cal c_counts_of (hr.mono (by omega)) rfl (pa_cons (pv 0) pa_nil)) (pe_cal c_counts_of (hr.mono (by omega)) rfl (pa_cons (pv 1) pa_nil)) (nomark _))))))
abbrev s_race_with : Stmt := top 28
theorem sc_race_with : FnScope ["counts", "black", "white", "shared", "black_eye", "white_eye"] ["counts"] (defScope s_race_with) := ⟨rfl, rfl, rfl, by decide +kernel, rfl, by decide +kernel, by decide +kernel⟩
def t_race_with (K : PySem.W.Frag) (sp_Race__init__ : Sp) : TS :=
  (tSeq (tAsg (tVar 0) (gTup K 5 (gCons (gName 1) (gCons (gName 2) (gCons (gName 3) (gCons (gName 4) (gCons (gName 5) gNil)))))))
    (tRet (tMake (He.ga K "Race") sp_Race__init__ [] E0 (tCons (tVar 1) (tCons (tVar 2) (tCons (tVar 3) (tCons (tVar 4) (tCons (tVar 5) tNil))))))))
theorem dv_race_with {P : Program} {w : World} {K : PySem.W.Frag} {mg : Str → Option Value} {base : Heap} {k : Nat} {f : Addr} {sp_Race__init__ : Sp} (m : Mo K mg) (cm_Race : CalM P w K mg base k "Race" (He.ga K "Race") sp_Race__init__) :
    Dv P w K mg base (k + 1) ["counts", "black", "white", "shared", "black_eye", "white_eye"] "race_with" (defScope s_race_with) f (defBody s_race_with) (t_race_with K sp_Race__init__) := by
  intro cdv A outer s H E hr
  have sc := sc_race_with
  exact (pss_cons (ps_asg (pv 0) (pg_tup rfl (pgs_cons (pg_name (i := 1) sc.nd rfl (.inl rfl)) (pgs_cons (pg_name (i := 2) sc.nd rfl (.inl rfl)) (pgs_cons (pg_name (i := 3) sc.nd rfl (.inl rfl)) (pgs_cons (pg_name (i := 4) sc.nd rfl (.inl rfl)) (pgs_cons (pg_name (i := 5) sc.nd rfl (.inl rfl)) pgs_nil)))))))
    (pss_one (ps_ret (pe_calM cm_Race hr rfl (pa_cons (pv 1) (pa_cons (pv 2) (pa_cons (pv 3) (pa_cons (pv 4) (pa_cons (pv 5) pa_nil)))))))))
abbrev s_outside_in : Stmt := top 29
theorem sc_outside_in : FnScope ["counts", "color"] ["counts", "color"] (defScope s_outside_in) := ⟨rfl, rfl, rfl, by decide +kernel, rfl, by decide +kernel, by decide +kernel⟩
def t_outside_in (K : PySem.W.Frag) : TS :=
  (tRet (tOp (rIx K) (tVar 0) (tOp (rI0 fun i j => .int (i - j)) (tVar 1) (tC (.int 1)))))
theorem dv_outside_in {P : Program} {w : World} {K : PySem.W.Frag} {mg : Str → Option Value} {base : Heap} {k : Nat} {f : Addr} (m : Mo K mg) :
    Dv P w K mg base (k + 1) ["counts", "color"] "outside_in" (defScope s_outside_in) f (defBody s_outside_in) (t_outside_in K) := by
  intro cdv A outer s H E hr
  have sc := sc_outside_in
  exact (pss_one (ps_ret (pe_ix ix_seq (pv 0) (pe_op op_sub (pv 1) pe_int) (fun _ _ => rfl))))
abbrev s_eye_in : Stmt := top 30
theorem sc_eye_in : FnScope ["counts", "color"] ["counts", "color"] (defScope s_eye_in) := ⟨rfl, rfl, rfl, by decide +kernel, rfl, by decide +kernel, by decide +kernel⟩
def t_eye_in (K : PySem.W.Frag) : TS :=
  (tRet (tOp (rIx K) (tVar 0) (tOp (rPlus K) (tVar 1) (tC (.int 2)))))
theorem dv_eye_in {P : Program} {w : World} {K : PySem.W.Frag} {mg : Str → Option Value} {base : Heap} {k : Nat} {f : Addr} (m : Mo K mg) :
    Dv P w K mg base (k + 1) ["counts", "color"] "eye_in" (defScope s_eye_in) f (defBody s_eye_in) (t_eye_in K) := by
  intro cdv A outer s H E hr
  have sc := sc_eye_in
  exact (pss_one (ps_ret (pe_ix ix_seq (pv 0) (pe_op op_plus (pv 1) pe_int) (fun _ _ => rfl))))
abbrev s_liberties_in : Stmt := top 31
theorem sc_liberties_in : FnScope ["counts", "color"] ["counts", "color"] (defScope s_liberties_in) := ⟨rfl, rfl, rfl, by decide +kernel, rfl, by decide +kernel, by decide +kernel⟩
def t_liberties_in (K : PySem.W.Frag) (sp_outside_in : Sp) (sp_eye_in : Sp) : TS :=
  (tRet (tOp (rPlus K) (tOp (rPlus K) (tCall sp_outside_in [] E0 (tCons (tVar 0) (tCons (tVar 1) tNil))) (tOp (rIx K) (tVar 0) (tC (.int 2)))) (tCall sp_eye_in [] E0 (tCons (tVar 0) (tCons (tVar 1) tNil)))))
theorem dv_liberties_in {P : Program} {w : World} {K : PySem.W.Frag} {mg : Str → Option Value} {base : Heap} {k : Nat} {f : Addr} {sp_outside_in : Sp} {sp_eye_in : Sp} (m : Mo K mg) (c_outside_in : Cal P w K mg base k "outside_in" ["counts", "color"] sp_outside_in) (c_eye_in : Cal P w K mg base k "eye_in" ["counts", "color"] sp_eye_in) :
    Dv P w K mg base (k + 1) ["counts", "color"] "liberties_in" (defScope s_liberties_in) f (defBody s_liberties_in) (t_liberties_in K sp_outside_in sp_eye_in) := by
  intro cdv A outer s H E hr
  have sc := sc_liberties_in
  obtain ⟨_, g_SHARED_PLACE⟩ := m.g_SHARED_PLACE
  exact (pss_one (ps_ret (pe_op op_plus (pe_op op_plus (pe_cal c_outside_in (hr.mono (by omega)) rfl (pa_cons (pv 0) (pa_cons (pv 1) pa_nil))) (pe_ix ix_seq (pv 0) (pe_glob rfl g_SHARED_PLACE ⟨_, rfl⟩) (fun _ _ => rfl))) (pe_cal c_eye_in (hr.mono (by omega)) rfl (pa_cons (pv 0) (pa_cons (pv 1) pa_nil))))))
abbrev s_race_liberties : Stmt := top 32
theorem sc_race_liberties : FnScope ["race", "color"] ["race", "color"] (defScope s_race_liberties) := ⟨rfl, rfl, rfl, by decide +kernel, rfl, by decide +kernel, by decide +kernel⟩
def t_race_liberties (K : PySem.W.Frag) (sp_check_color : Sp) (sp_liberties_in : Sp) (sp_counts_of : Sp) : TS :=
  (tSeq (tDrop (tCall sp_check_color [] E0 (tCons (tVar 1) tNil)))
    (tRet (tCall sp_liberties_in [] E0 (tCons (tCall sp_counts_of [] E0 (tCons (tVar 0) tNil)) (tCons (tVar 1) tNil)))))
theorem dv_race_liberties {P : Program} {w : World} {K : PySem.W.Frag} {mg : Str → Option Value} {base : Heap} {k : Nat} {f : Addr} {sp_check_color : Sp} {sp_liberties_in : Sp} {sp_counts_of : Sp} (m : Mo K mg) (c_check_color : Cal P w K mg base k "check_color" ["color"] sp_check_color) (c_liberties_in : Cal P w K mg base k "liberties_in" ["counts", "color"] sp_liberties_in) (c_counts_of : Cal P w K mg base k "counts_of" ["race"] sp_counts_of) :
    Dv P w K mg base (k + 1) ["race", "color"] "race_liberties" (defScope s_race_liberties) f (defBody s_race_liberties) (t_race_liberties K sp_check_color sp_liberties_in sp_counts_of) := by
  intro cdv A outer s H E hr
  have sc := sc_race_liberties
  exact (pss_cons (ps_expr (pe_cal c_check_color (hr.mono (by omega)) rfl (pa_cons (pv 1) pa_nil)))
    (pss_one (ps_ret (pe_cal c_liberties_in (hr.mono (by omega)) rfl (pa_cons (pe_cal c_counts_of (hr.mono (by omega)) rfl (pa_cons (pv 0) pa_nil)) (pa_cons (pv 1) pa_nil))))))
abbrev s_moves_in : Stmt := top 33
theorem sc_moves_in : FnScope ["counts", "color", "other", "found", "last"] ["counts", "color"] (defScope s_moves_in) := ⟨rfl, rfl, rfl, by decide +kernel, rfl, by decide +kernel, by decide +kernel⟩
def t_moves_in (K : PySem.W.Frag) (sp_other_color : Sp) (sp_liberties_in : Sp) (sp_outside_in : Sp) (sp_eye_in : Sp) : TS :=
  (tSeq (tPar 2 3 (tCons (tCall sp_other_color [] E0 (tCons (tVar 1) tNil)) (tCons (tLst tNil) tNil)))
    (tSeq (tAsg (tOp (rEqA K) (tCall sp_liberties_in [] E0 (tCons (tVar 0) (tCons (tVar 2) tNil))) (tC (.int 1))) (gName 4))
    (tSeq (tIfS (tTest (tOp (rI0 fun i j => .bl (decide (j < i))) (tCall sp_outside_in [] E0 (tCons (tVar 0) (tCons (tVar 2) tNil))) (tC (.int 0)))) (tDrop (tBM K "list" rAppend (tVar 3) (tCons (tC (.str "outside")) tNil)))
    tNext)
    (tSeq (tIfS (tAnd (tTest (tOp (rI0 fun i j => .bl (decide (j < i))) (tOp (rIx K) (tVar 0) (tC (.int 2))) (tC (.int 0)))) (tOr (tB (tVar 4)) (tTest (tOp (rI0 fun i j => .bl (decide (j < i))) (tCall sp_liberties_in [] E0 (tCons (tVar 0) (tCons (tVar 1) tNil))) (tC (.int 1)))))) (tDrop (tBM K "list" rAppend (tVar 3) (tCons (tC (.str "shared")) tNil)))
    tNext)
    (tSeq (tIfS (tOr (tTest (tOp (rI0 fun i j => .bl (decide (j < i))) (tCall sp_eye_in [] E0 (tCons (tVar 0) (tCons (tVar 2) tNil))) (tC (.int 1)))) (tAnd (tTest (tOp (rEqA K) (tCall sp_eye_in [] E0 (tCons (tVar 0) (tCons (tVar 2) tNil))) (tC (.int 1)))) (tB (tVar 4)))) (tDrop (tBM K "list" rAppend (tVar 3) (tCons (tC (.str "eye")) tNil)))
    tNext)
    (tRet (tVar 3)))))))
theorem dv_moves_in {P : Program} {w : World} {K : PySem.W.Frag} {mg : Str → Option Value} {base : Heap} {k : Nat} {f : Addr} {sp_other_color : Sp} {sp_liberties_in : Sp} {sp_outside_in : Sp} {sp_eye_in : Sp} (m : Mo K mg) (c_other_color : Cal P w K mg base k "other_color" ["color"] sp_other_color) (c_liberties_in : Cal P w K mg base k "liberties_in" ["counts", "color"] sp_liberties_in) (c_outside_in : Cal P w K mg base k "outside_in" ["counts", "color"] sp_outside_in) (c_eye_in : Cal P w K mg base k "eye_in" ["counts", "color"] sp_eye_in) :
    Dv P w K mg base (k + 1) ["counts", "color", "other", "found", "last"] "moves_in" (defScope s_moves_in) f (defBody s_moves_in) (t_moves_in K sp_other_color sp_liberties_in sp_outside_in sp_eye_in) := by
  intro cdv A outer s H E hr
  have sc := sc_moves_in
  obtain ⟨_, g_OUTSIDE⟩ := m.g_OUTSIDE
  obtain ⟨_, g_SHARED_PLACE⟩ := m.g_SHARED_PLACE
  obtain ⟨_, g_SHARED⟩ := m.g_SHARED
  obtain ⟨_, g_EYE⟩ := m.g_EYE
  exact (pss_cons (ps_par (i := 2) (j := 3) rfl sc.nd rfl rfl (by decide) rfl rfl (pa_cons (pe_cal c_other_color (hr.mono (by omega)) rfl (pa_cons (pv 1) pa_nil)) (pa_cons (pe_lst pa_nil) pa_nil)) rfl)
    (pss_cons (ps_set (i := 4) sc.nd rfl (Or.inl rfl) (pe_cmpR (op_eqA hr.units) (pe_cal c_liberties_in (hr.mono (by omega)) rfl (pa_cons (pv 0) (pa_cons (pv 2) pa_nil))) pe_int (nomark _)))
    (pss_cons (ps_if (pt_cmpR op_gt (pe_cal c_outside_in (hr.mono (by omega)) rfl (pa_cons (pv 0) (pa_cons (pv 2) pa_nil))) pe_int (nomark _)) (pss_one (ps_expr (pe_bm PySem.F.plainAttrs_list PySem.F.slot_list_append PySem.F.type_list_append mt_append (pv 3) (pa_cons (pe_glob rfl g_OUTSIDE ⟨_, rfl⟩) pa_nil))))
    pss_nil)
    (pss_cons (ps_if (PW.pt (pw_and (pt_cmpR op_gt (pe_ix ix_seq (pv 0) (pe_glob rfl g_SHARED_PLACE ⟨_, rfl⟩) (fun _ _ => rfl)) pe_int (nomark _)) (pw_and1 (PW.pt (pw_or (pt_val (pv 4)) (pw_or1 (pt_cmpR op_gt (pe_cal c_liberties_in (hr.mono (by omega)) rfl (pa_cons (pv 0) (pa_cons (pv 1) pa_nil))) pe_int (nomark _)))))))) (pss_one (ps_expr (pe_bm PySem.F.plainAttrs_list PySem.F.slot_list_append PySem.F.type_list_append mt_append (pv 3) (pa_cons (pe_glob rfl g_SHARED ⟨_, rfl⟩) pa_nil))))
    pss_nil)
    (pss_cons (ps_if (PW.pt (pw_or (pt_cmpR op_gt (pe_cal c_eye_in (hr.mono (by omega)) rfl (pa_cons (pv 0) (pa_cons (pv 2) pa_nil))) pe_int (nomark _)) (pw_or1 (PW.pt (pw_and (pt_cmpR (op_eqA hr.units) (pe_cal c_eye_in (hr.mono (by omega)) rfl (pa_cons (pv 0) (pa_cons (pv 2) pa_nil))) pe_int (nomark _)) (pw_and1 (pt_val (pv 4)))))))) (pss_one (ps_expr (pe_bm PySem.F.plainAttrs_list PySem.F.slot_list_append PySem.F.type_list_append mt_append (pv 3) (pa_cons (pe_glob rfl g_EYE ⟨_, rfl⟩) pa_nil))))
    pss_nil)
    (pss_one (ps_ret (pv 3))))))))
abbrev s_race_moves : Stmt := top 34
theorem sc_race_moves : FnScope ["race", "color"] ["race", "color"] (defScope s_race_moves) := ⟨rfl, rfl, rfl, by decide +kernel, rfl, by decide +kernel, by decide +kernel⟩
def t_race_moves (K : PySem.W.Frag) (sp_check_color : Sp) (sp_moves_in : Sp) (sp_counts_of : Sp) : TS :=
  (tSeq (tDrop (tCall sp_check_color [] E0 (tCons (tVar 1) tNil)))
    (tRet (tCall sp_moves_in [] E0 (tCons (tCall sp_counts_of [] E0 (tCons (tVar 0) tNil)) (tCons (tVar 1) tNil)))))
theorem dv_race_moves {P : Program} {w : World} {K : PySem.W.Frag} {mg : Str → Option Value} {base : Heap} {k : Nat} {f : Addr} {sp_check_color : Sp} {sp_moves_in : Sp} {sp_counts_of : Sp} (m : Mo K mg) (c_check_color : Cal P w K mg base k "check_color" ["color"] sp_check_color) (c_moves_in : Cal P w K mg base k "moves_in" ["counts", "color"] sp_moves_in) (c_counts_of : Cal P w K mg base k "counts_of" ["race"] sp_counts_of) :
    Dv P w K mg base (k + 1) ["race", "color"] "race_moves" (defScope s_race_moves) f (defBody s_race_moves) (t_race_moves K sp_check_color sp_moves_in sp_counts_of) := by
  intro cdv A outer s H E hr
  have sc := sc_race_moves
  exact (pss_cons (ps_expr (pe_cal c_check_color (hr.mono (by omega)) rfl (pa_cons (pv 1) pa_nil)))
    (pss_one (ps_ret (pe_cal c_moves_in (hr.mono (by omega)) rfl (pa_cons (pe_cal c_counts_of (hr.mono (by omega)) rfl (pa_cons (pv 0) pa_nil)) (pa_cons (pv 1) pa_nil))))))
abbrev s_counts_behind : Stmt := top 35
theorem sc_counts_behind : FnScope ["counts", "color", "word", "place", "at", "number"] ["counts", "color", "word"] (defScope s_counts_behind) := ⟨rfl, rfl, rfl, by decide +kernel, rfl, by decide +kernel, by decide +kernel⟩
def t_counts_behind (K : PySem.W.Frag) (sp_other_color : Sp) : TS :=
  (tSeq (tAsg (tC (.int 2)) (gName 3))
    (tSeq (tIfS (tTest (tOp (rNeA K) (tVar 2) (tC (.str "shared")))) (tAsg (tOp (rPlus K) (tCall sp_other_color [] E0 (tCons (tVar 1) tNil)) (tIf (tTest (tOp (rEqA K) (tVar 2) (tC (.str "eye")))) (tC (.int 2)) (tUn (rU fun i => .int (-i)) (tC (.int 1))))) (gName 3))
    tNext)
    (tRet (tCB (rTupO K) (tCons (tLc (iEnumS K (tCons (tVar 0) tNil)) (gTup K 2 (gCons (gName 4) (gCons (gName 5) gNil))) tYes (tOp (rI0 fun i j => .int (i - j)) (tVar 5) (tCB rIntO (tCons (tOp (rEqA K) (tVar 4) (tVar 3)) tNil))) [4, 5]) tNil)))))
theorem dv_counts_behind {P : Program} {w : World} {K : PySem.W.Frag} {mg : Str → Option Value} {base : Heap} {k : Nat} {f : Addr} {sp_other_color : Sp} (m : Mo K mg) (c_other_color : Cal P w K mg base k "other_color" ["color"] sp_other_color) :
    Dv P w K mg base (k + 1) ["counts", "color", "word", "place", "at", "number"] "counts_behind" (defScope s_counts_behind) f (defBody s_counts_behind) (t_counts_behind K sp_other_color) := by
  intro cdv A outer s H E hr
  have sc := sc_counts_behind
  obtain ⟨_, g_SHARED_PLACE⟩ := m.g_SHARED_PLACE
  obtain ⟨_, g_SHARED⟩ := m.g_SHARED
  obtain ⟨_, g_EYE⟩ := m.g_EYE
  exact (pss_cons (ps_set (i := 3) sc.nd rfl (Or.inr rfl) (pe_glob rfl g_SHARED_PLACE ⟨_, rfl⟩))
    (pss_cons (ps_if (pt_cmpR (op_neA hr.units) (pv 2) (pe_glob rfl g_SHARED ⟨_, rfl⟩) (nomark _)) (pss_one (ps_set (i := 3) sc.nd rfl (Or.inr rfl) (pe_op op_plus (pe_cal c_other_color (hr.mono (by omega)) rfl (pa_cons (pv 1) pa_nil)) (pe_ifExp (pt_cmpR (op_eqA hr.units) (pv 2) (pe_glob rfl g_EYE ⟨_, rfl⟩) (nomark _)) pe_int (pe_un un_neg pe_int)))))
    pss_nil)
    (pss_one (ps_ret (pe_callTy call_tuple_of rfl m.n_tuple boot_tuple (pa_cons (pe_lc (own := [("at", 4), ("number", 5)]) rfl sc.nd (pi_enumS rfl m.n_enumerate (pa_cons (pv 0) pa_nil)) (blkOk_by (N := ["counts", "color", "word", "place", "at", "number"]) (sc := defScope s_counts_behind) (by decide +kernel)) (fun _ _ _ _ _ => (pg_tup rfl (pgs_cons (pg_name (i := 4) sc.nd rfl (.inl rfl)) (pgs_cons (pg_name (i := 5) sc.nd rfl (.inl rfl)) pgs_nil)))) (fun _ _ _ _ _ => pts_nil) (fun _ _ _ _ _ => (pe_op op_sub (pv 5) (pe_callTy call_int1 rfl m.n_int boot_int (pa_cons (pe_cmpR (op_eqA hr.units) (pv 4) (pv 3) (nomark _)) pa_nil))))) pa_nil))))))
abbrev s_race_after : Stmt := top 36
theorem sc_race_after : FnScope ["race", "color", "move", "counts", "behind"] ["race", "color", "move"] (defScope s_race_after) := ⟨rfl, rfl, rfl, by decide +kernel, rfl, by decide +kernel, by decide +kernel⟩
def t_race_after (K : PySem.W.Frag) (sp_check_color : Sp) (sp_counts_of : Sp) (sp_race_with : Sp) (sp_moves_in : Sp) (sp_counts_behind : Sp) (sp_liberties_in : Sp) (sp_other_color : Sp) : TS :=
  (tSeq (tDrop (tCall sp_check_color [] E0 (tCons (tVar 1) tNil)))
    (tSeq (tAsg (tCall sp_counts_of [] E0 (tCons (tVar 0) tNil)) (gName 3))
    (tSeq (tIfS (tB (tIsN (tVar 2))) (tRet (tCall sp_race_with [] E0 (tCons (tVar 3) tNil)))
    tNext)
    (tSeq (tIfS (tOr (tNot (tB (tCB (rIsi K) (tCons (tVar 2) (tCons (tC (.ty "str")) tNil))))) (tTest (tOp (rIn K true) (tVar 2) (tCall sp_moves_in [] E0 (tCons (tVar 3) (tCons (tVar 1) tNil)))))) tNever
    tNext)
    (tSeq (tAsg (tCall sp_counts_behind [] E0 (tCons (tVar 3) (tCons (tVar 1) (tCons (tVar 2) tNil)))) (gName 4))
    (tRet (tIf (tTest (tOp (rI0 fun i j => .bl (decide (j < i))) (tCall sp_liberties_in [] E0 (tCons (tVar 4) (tCons (tCall sp_other_color [] E0 (tCons (tVar 1) tNil)) tNil))) (tC (.int 0)))) (tCall sp_race_with [] E0 (tCons (tVar 4) tNil)) (tC .non))))))))
theorem dv_race_after {P : Program} {w : World} {K : PySem.W.Frag} {mg : Str → Option Value} {base : Heap} {k : Nat} {f : Addr} {sp_check_color : Sp} {sp_counts_of : Sp} {sp_race_with : Sp} {sp_moves_in : Sp} {sp_counts_behind : Sp} {sp_liberties_in : Sp} {sp_other_color : Sp} (m : Mo K mg) (c_check_color : Cal P w K mg base k "check_color" ["color"] sp_check_color) (c_counts_of : Cal P w K mg base k "counts_of" ["race"] sp_counts_of) (c_race_with : Cal P w K mg base k "race_with" ["counts"] sp_race_with) (c_moves_in : Cal P w K mg base k "moves_in" ["counts", "color"] sp_moves_in) (c_counts_behind : Cal P w K mg base k "counts_behind" ["counts", "color", "word"] sp_counts_behind) (c_liberties_in : Cal P w K mg base k "liberties_in" ["counts", "color"] sp_liberties_in) (c_other_color : Cal P w K mg base k "other_color" ["color"] sp_other_color) :
    Dv P w K mg base (k + 1) ["race", "color", "move", "counts", "behind"] "race_after" (defScope s_race_after) f (defBody s_race_after) (t_race_after K sp_check_color sp_counts_of sp_race_with sp_moves_in sp_counts_behind sp_liberties_in sp_other_color) := by
  intro cdv A outer s H E hr
  have sc := sc_race_after
  exact (pss_cons (ps_expr (pe_cal c_check_color (hr.mono (by omega)) rfl (pa_cons (pv 1) pa_nil)))
    (pss_cons (ps_set (i := 3) sc.nd rfl (Or.inl rfl) (pe_cal c_counts_of (hr.mono (by omega)) rfl (pa_cons (pv 0) pa_nil)))
    (pss_cons (ps_if (pt_cmp (pc_isN (pv 2))) (pss_one (ps_ret (pe_cal c_race_with (hr.mono (by omega)) rfl (pa_cons (pv 3) pa_nil))))
    pss_nil)
    (pss_cons (ps_if (PW.pt (pw_or (pt_not (pt_val (pe_callB call_isi rfl m.n_isinstance boot_isinstance (pa_cons (pv 2) (pa_cons (pe_bltn rfl m.n_str boot_str rfl) pa_nil))))) (pw_or1 (pt_cmpR op_notIn_seq (pv 2) (pe_cal c_moves_in (hr.mono (by omega)) rfl (pa_cons (pv 3) (pa_cons (pv 1) pa_nil))) rfl)))) (pss_one ps_never)
    pss_nil)
    (pss_cons (ps_set (i := 4) sc.nd rfl (Or.inl rfl) (pe_cal c_counts_behind (hr.mono (by omega)) rfl (pa_cons (pv 3) (pa_cons (pv 1) (pa_cons (pv 2) pa_nil)))))
    (pss_one (ps_ret (pe_ifExp (pt_cmpR op_gt (pe_cal c_liberties_in (hr.mono (by omega)) rfl (pa_cons (pv 4) (pa_cons (pe_cal c_other_color (hr.mono (by omega)) rfl (pa_cons (pv 1) pa_nil)) pa_nil))) pe_int (nomark _)) (pe_cal c_race_with (hr.mono (by omega)) rfl (pa_cons (pv 4) pa_nil)) pe_non))))))))
abbrev s_need_in : Stmt := top 37
theorem sc_need_in : FnScope ["counts", "color", "shared", "own", "theirs"] ["counts", "color"] (defScope s_need_in) := ⟨rfl, rfl, rfl, by decide +kernel, rfl, by decide +kernel, by decide +kernel⟩
def t_need_in (K : PySem.W.Frag) (sp_eye_in : Sp) (sp_other_color : Sp) : TS :=
  (tSeq (tAsg (tOp (rIx K) (tVar 0) (tC (.int 2))) (gName 2))
    (tSeq (tPar 3 4 (tCons (tOp (rI0 fun i j => .bl (decide (j < i))) (tCall sp_eye_in [] E0 (tCons (tVar 0) (tCons (tVar 1) tNil))) (tC (.int 0))) (tCons (tOp (rI0 fun i j => .bl (decide (j < i))) (tCall sp_eye_in [] E0 (tCons (tVar 0) (tCons (tCall sp_other_color [] E0 (tCons (tVar 1) tNil)) tNil))) (tC (.int 0))) tNil)))
    (tSeq (tIfS (tNot (tOr (tB (tVar 3)) (tB (tVar 4)))) (tRet (tCB (rMaxA K) (tCons (tOp (rI0 fun i j => .int (i - j)) (tVar 2) (tC (.int 1))) (tCons (tC (.int 0)) tNil))))
    tNext)
    (tRet (tIf (tAnd (tB (tVar 3)) (tNot (tB (tVar 4)))) (tUn (rU fun i => .int (-i)) (tVar 2)) (tVar 2))))))
theorem dv_need_in {P : Program} {w : World} {K : PySem.W.Frag} {mg : Str → Option Value} {base : Heap} {k : Nat} {f : Addr} {sp_eye_in : Sp} {sp_other_color : Sp} (m : Mo K mg) (c_eye_in : Cal P w K mg base k "eye_in" ["counts", "color"] sp_eye_in) (c_other_color : Cal P w K mg base k "other_color" ["color"] sp_other_color) :
    Dv P w K mg base (k + 1) ["counts", "color", "shared", "own", "theirs"] "need_in" (defScope s_need_in) f (defBody s_need_in) (t_need_in K sp_eye_in sp_other_color) := by
  intro cdv A outer s H E hr
  have sc := sc_need_in
  obtain ⟨_, g_SHARED_PLACE⟩ := m.g_SHARED_PLACE
  exact (pss_cons (ps_set (i := 2) sc.nd rfl (Or.inl rfl) (pe_ix ix_seq (pv 0) (pe_glob rfl g_SHARED_PLACE ⟨_, rfl⟩) (fun _ _ => rfl)))
    (pss_cons (ps_par (i := 3) (j := 4) rfl sc.nd rfl rfl (by decide) rfl rfl (pa_cons (pe_cmpR op_gt (pe_cal c_eye_in (hr.mono (by omega)) rfl (pa_cons (pv 0) (pa_cons (pv 1) pa_nil))) pe_int (nomark _)) (pa_cons (pe_cmpR op_gt (pe_cal c_eye_in (hr.mono (by omega)) rfl (pa_cons (pv 0) (pa_cons (pe_cal c_other_color (hr.mono (by omega)) rfl (pa_cons (pv 1) pa_nil)) pa_nil))) pe_int (nomark _)) pa_nil)) rfl)
    (pss_cons (ps_if (pt_not (PW.pt (pw_or (pt_val (pv 3)) (pw_or1 (pt_val (pv 4)))))) (pss_one (ps_ret (pe_callB (call_maxA rfl) rfl m.n_max boot_max (pa_cons (pe_op op_sub (pv 2) pe_int) (pa_cons pe_int pa_nil)))))
    pss_nil)
    (pss_one (ps_ret (pe_ifExp (PW.pt (pw_and (pt_val (pv 3)) (pw_and1 (pt_not (pt_val (pv 4)))))) (pe_un un_neg (pv 2)) (pv 2)))))))
abbrev s_lead_in : Stmt := top 38
theorem sc_lead_in : FnScope ["counts", "color", "other", "ahead"] ["counts", "color"] (defScope s_lead_in) := ⟨rfl, rfl, rfl, by decide +kernel, rfl, by decide +kernel, by decide +kernel⟩
def t_lead_in (K : PySem.W.Frag) (sp_other_color : Sp) (sp_outside_in : Sp) (sp_eye_in : Sp) (sp_need_in : Sp) : TS :=
  (tSeq (tAsg (tCall sp_other_color [] E0 (tCons (tVar 1) tNil)) (gName 2))
    (tSeq (tAsg (tOp (rI0 fun i j => .int (i - j)) (tOp (rI0 fun i j => .int (i - j)) (tOp (rPlus K) (tCall sp_outside_in [] E0 (tCons (tVar 0) (tCons (tVar 1) tNil))) (tCall sp_eye_in [] E0 (tCons (tVar 0) (tCons (tVar 1) tNil)))) (tCall sp_outside_in [] E0 (tCons (tVar 0) (tCons (tVar 2) tNil)))) (tCall sp_eye_in [] E0 (tCons (tVar 0) (tCons (tVar 2) tNil)))) (gName 3))
    (tRet (tOp (rI0 fun i j => .int (i - j)) (tVar 3) (tCall sp_need_in [] E0 (tCons (tVar 0) (tCons (tVar 1) tNil)))))))
theorem dv_lead_in {P : Program} {w : World} {K : PySem.W.Frag} {mg : Str → Option Value} {base : Heap} {k : Nat} {f : Addr} {sp_other_color : Sp} {sp_outside_in : Sp} {sp_eye_in : Sp} {sp_need_in : Sp} (m : Mo K mg) (c_other_color : Cal P w K mg base k "other_color" ["color"] sp_other_color) (c_outside_in : Cal P w K mg base k "outside_in" ["counts", "color"] sp_outside_in) (c_eye_in : Cal P w K mg base k "eye_in" ["counts", "color"] sp_eye_in) (c_need_in : Cal P w K mg base k "need_in" ["counts", "color"] sp_need_in) :
    Dv P w K mg base (k + 1) ["counts", "color", "other", "ahead"] "lead_in" (defScope s_lead_in) f (defBody s_lead_in) (t_lead_in K sp_other_color sp_outside_in sp_eye_in sp_need_in) := by
  intro cdv A outer s H E hr
  have sc := sc_lead_in
  exact (pss_cons (ps_set (i := 2) sc.nd rfl (Or.inl rfl) (pe_cal c_other_color (hr.mono (by omega)) rfl (pa_cons (pv 1) pa_nil)))
    (pss_cons (ps_set (i := 3) sc.nd rfl (Or.inl rfl) (pe_op op_sub (pe_op op_sub (pe_op op_plus (pe_cal c_outside_in (hr.mono (by omega)) rfl (pa_cons (pv 0) (pa_cons (pv 1) pa_nil))) (pe_cal c_eye_in (hr.mono (by omega)) rfl (pa_cons (pv 0) (pa_cons (pv 1) pa_nil)))) (pe_cal c_outside_in (hr.mono (by omega)) rfl (pa_cons (pv 0) (pa_cons (pv 2) pa_nil)))) (pe_cal c_eye_in (hr.mono (by omega)) rfl (pa_cons (pv 0) (pa_cons (pv 2) pa_nil)))))
    (pss_one (ps_ret (pe_op op_sub (pv 3) (pe_cal c_need_in (hr.mono (by omega)) rfl (pa_cons (pv 0) (pa_cons (pv 1) pa_nil))))))))
abbrev s_result_in : Stmt := top 39
theorem sc_result_in : FnScope ["counts", "first", "other"] ["counts", "first"] (defScope s_result_in) := ⟨rfl, rfl, rfl, by decide +kernel, rfl, by decide +kernel, by decide +kernel⟩
def t_result_in (K : PySem.W.Frag) (sp_other_color : Sp) (sp_lead_in : Sp) : TS :=
  (tSeq (tAsg (tCall sp_other_color [] E0 (tCons (tVar 1) tNil)) (gName 2))
    (tSeq (tIfS (tTest (tOp (rI0 fun i j => .bl (decide (j ≤ i))) (tCall sp_lead_in [] E0 (tCons (tVar 0) (tCons (tVar 1) tNil))) (tC (.int 0)))) (tRet (tVar 1))
    tNext)
    (tRet (tIf (tTest (tOp (rI0 fun i j => .bl (decide (j ≤ i))) (tCall sp_lead_in [] E0 (tCons (tVar 0) (tCons (tVar 2) tNil))) (tC (.int 1)))) (tVar 2) (tC (.int 0))))))
theorem dv_result_in {P : Program} {w : World} {K : PySem.W.Frag} {mg : Str → Option Value} {base : Heap} {k : Nat} {f : Addr} {sp_other_color : Sp} {sp_lead_in : Sp} (m : Mo K mg) (c_other_color : Cal P w K mg base k "other_color" ["color"] sp_other_color) (c_lead_in : Cal P w K mg base k "lead_in" ["counts", "color"] sp_lead_in) :
    Dv P w K mg base (k + 1) ["counts", "first", "other"] "result_in" (defScope s_result_in) f (defBody s_result_in) (t_result_in K sp_other_color sp_lead_in) := by
  intro cdv A outer s H E hr
  have sc := sc_result_in
  exact (pss_cons (ps_set (i := 2) sc.nd rfl (Or.inl rfl) (pe_cal c_other_color (hr.mono (by omega)) rfl (pa_cons (pv 1) pa_nil)))
    (pss_cons (ps_if (pt_cmpR op_ge (pe_cal c_lead_in (hr.mono (by omega)) rfl (pa_cons (pv 0) (pa_cons (pv 1) pa_nil))) pe_int (nomark _)) (pss_one (ps_ret (pv 1)))
    pss_nil)
    (pss_one (ps_ret (pe_ifExp (pt_cmpR op_ge (pe_cal c_lead_in (hr.mono (by omega)) rfl (pa_cons (pv 0) (pa_cons (pv 2) pa_nil))) pe_int (nomark _)) (pv 2) pe_int)))))
abbrev s_check_first : Stmt := top 40
theorem sc_check_first : FnScope ["first"] ["first"] (defScope s_check_first) := ⟨rfl, rfl, rfl, by decide +kernel, rfl, by decide +kernel, by decide +kernel⟩
def t_check_first (K : PySem.W.Frag) (sp_is_color : Sp) : TS :=
  (tIfS (tNot (tB (tCall sp_is_color [] E0 (tCons (tVar 0) tNil)))) tNever
    tNext)
theorem dv_check_first {P : Program} {w : World} {K : PySem.W.Frag} {mg : Str → Option Value} {base : Heap} {k : Nat} {f : Addr} {sp_is_color : Sp} (m : Mo K mg) (c_is_color : Cal P w K mg base k "is_color" ["value"] sp_is_color) :
    Dv P w K mg base (k + 1) ["first"] "check_first" (defScope s_check_first) f (defBody s_check_first) (t_check_first K sp_is_color) := by
  intro cdv A outer s H E hr
  have sc := sc_check_first
  exact (pss_one (ps_if (pt_not (pt_val (pe_cal c_is_color (hr.mono (by omega)) rfl (pa_cons (pv 0) pa_nil)))) (pss_one ps_never)
    pss_nil))
abbrev s_race_result : Stmt := top 41
theorem sc_race_result : FnScope ["race", "first"] ["race", "first"] (defScope s_race_result) := ⟨rfl, rfl, rfl, by decide +kernel, rfl, by decide +kernel, by decide +kernel⟩
def t_race_result (K : PySem.W.Frag) (sp_check_first : Sp) (sp_result_in : Sp) (sp_counts_of : Sp) : TS :=
  (tSeq (tDrop (tCall sp_check_first [] E0 (tCons (tVar 1) tNil)))
    (tRet (tCall sp_result_in [] E0 (tCons (tCall sp_counts_of [] E0 (tCons (tVar 0) tNil)) (tCons (tVar 1) tNil)))))
theorem dv_race_result {P : Program} {w : World} {K : PySem.W.Frag} {mg : Str → Option Value} {base : Heap} {k : Nat} {f : Addr} {sp_check_first : Sp} {sp_result_in : Sp} {sp_counts_of : Sp} (m : Mo K mg) (c_check_first : Cal P w K mg base k "check_first" ["first"] sp_check_first) (c_result_in : Cal P w K mg base k "result_in" ["counts", "first"] sp_result_in) (c_counts_of : Cal P w K mg base k "counts_of" ["race"] sp_counts_of) :
    Dv P w K mg base (k + 1) ["race", "first"] "race_result" (defScope s_race_result) f (defBody s_race_result) (t_race_result K sp_check_first sp_result_in sp_counts_of) := by
  intro cdv A outer s H E hr
  have sc := sc_race_result
  exact (pss_cons (ps_expr (pe_cal c_check_first (hr.mono (by omega)) rfl (pa_cons (pv 1) pa_nil)))
    (pss_one (ps_ret (pe_cal c_result_in (hr.mono (by omega)) rfl (pa_cons (pe_cal c_counts_of (hr.mono (by omega)) rfl (pa_cons (pv 0) pa_nil)) (pa_cons (pv 1) pa_nil))))))
abbrev s_race_need : Stmt := top 42
theorem sc_race_need : FnScope ["race", "color"] ["race", "color"] (defScope s_race_need) := ⟨rfl, rfl, rfl, by decide +kernel, rfl, by decide +kernel, by decide +kernel⟩
def t_race_need (K : PySem.W.Frag) (sp_check_color : Sp) (sp_need_in : Sp) (sp_counts_of : Sp) : TS :=
  (tSeq (tDrop (tCall sp_check_color [] E0 (tCons (tVar 1) tNil)))
    (tRet (tCall sp_need_in [] E0 (tCons (tCall sp_counts_of [] E0 (tCons (tVar 0) tNil)) (tCons (tVar 1) tNil)))))
theorem dv_race_need {P : Program} {w : World} {K : PySem.W.Frag} {mg : Str → Option Value} {base : Heap} {k : Nat} {f : Addr} {sp_check_color : Sp} {sp_need_in : Sp} {sp_counts_of : Sp} (m : Mo K mg) (c_check_color : Cal P w K mg base k "check_color" ["color"] sp_check_color) (c_need_in : Cal P w K mg base k "need_in" ["counts", "color"] sp_need_in) (c_counts_of : Cal P w K mg base k "counts_of" ["race"] sp_counts_of) :
    Dv P w K mg base (k + 1) ["race", "color"] "race_need" (defScope s_race_need) f (defBody s_race_need) (t_race_need K sp_check_color sp_need_in sp_counts_of) := by
  intro cdv A outer s H E hr
  have sc := sc_race_need
  exact (pss_cons (ps_expr (pe_cal c_check_color (hr.mono (by omega)) rfl (pa_cons (pv 1) pa_nil)))
    (pss_one (ps_ret (pe_cal c_need_in (hr.mono (by omega)) rfl (pa_cons (pe_cal c_counts_of (hr.mono (by omega)) rfl (pa_cons (pv 0) pa_nil)) (pa_cons (pv 1) pa_nil))))))
abbrev s_race_lead : Stmt := top 43
theorem sc_race_lead : FnScope ["race", "color"] ["race", "color"] (defScope s_race_lead) := ⟨rfl, rfl, rfl, by decide +kernel, rfl, by decide +kernel, by decide +kernel⟩
def t_race_lead (K : PySem.W.Frag) (sp_check_color : Sp) (sp_lead_in : Sp) (sp_counts_of : Sp) : TS :=
  (tSeq (tDrop (tCall sp_check_color [] E0 (tCons (tVar 1) tNil)))
    (tRet (tCall sp_lead_in [] E0 (tCons (tCall sp_counts_of [] E0 (tCons (tVar 0) tNil)) (tCons (tVar 1) tNil)))))
theorem dv_race_lead {P : Program} {w : World} {K : PySem.W.Frag} {mg : Str → Option Value} {base : Heap} {k : Nat} {f : Addr} {sp_check_color : Sp} {sp_lead_in : Sp} {sp_counts_of : Sp} (m : Mo K mg) (c_check_color : Cal P w K mg base k "check_color" ["color"] sp_check_color) (c_lead_in : Cal P w K mg base k "lead_in" ["counts", "color"] sp_lead_in) (c_counts_of : Cal P w K mg base k "counts_of" ["race"] sp_counts_of) :
    Dv P w K mg base (k + 1) ["race", "color"] "race_lead" (defScope s_race_lead) f (defBody s_race_lead) (t_race_lead K sp_check_color sp_lead_in sp_counts_of) := by
  intro cdv A outer s H E hr
  have sc := sc_race_lead
  exact (pss_cons (ps_expr (pe_cal c_check_color (hr.mono (by omega)) rfl (pa_cons (pv 1) pa_nil)))
    (pss_one (ps_ret (pe_cal c_lead_in (hr.mono (by omega)) rfl (pa_cons (pe_cal c_counts_of (hr.mono (by omega)) rfl (pa_cons (pv 0) pa_nil)) (pa_cons (pv 1) pa_nil))))))
abbrev s_result_behind : Stmt := top 44
theorem sc_result_behind : FnScope ["counts", "color", "word", "other", "behind"] ["counts", "color", "word"] (defScope s_result_behind) := ⟨rfl, rfl, rfl, by decide +kernel, rfl, by decide +kernel, by decide +kernel⟩
def t_result_behind (K : PySem.W.Frag) (sp_other_color : Sp) (sp_lead_in : Sp) (sp_counts_behind : Sp) (sp_liberties_in : Sp) (sp_result_in : Sp) : TS :=
  (tSeq (tAsg (tCall sp_other_color [] E0 (tCons (tVar 1) tNil)) (gName 3))
    (tSeq (tIfS (tB (tIsN (tVar 2))) (tRet (tIf (tTest (tOp (rI0 fun i j => .bl (decide (j ≤ i))) (tCall sp_lead_in [] E0 (tCons (tVar 0) (tCons (tVar 3) tNil))) (tC (.int 0)))) (tVar 3) (tC (.int 0))))
    tNext)
    (tSeq (tAsg (tCall sp_counts_behind [] E0 (tCons (tVar 0) (tCons (tVar 1) (tCons (tVar 2) tNil)))) (gName 4))
    (tRet (tIf (tTest (tOp (rEqA K) (tCall sp_liberties_in [] E0 (tCons (tVar 4) (tCons (tVar 3) tNil))) (tC (.int 0)))) (tVar 1) (tCall sp_result_in [] E0 (tCons (tVar 4) (tCons (tVar 3) tNil))))))))
theorem dv_result_behind {P : Program} {w : World} {K : PySem.W.Frag} {mg : Str → Option Value} {base : Heap} {k : Nat} {f : Addr} {sp_other_color : Sp} {sp_lead_in : Sp} {sp_counts_behind : Sp} {sp_liberties_in : Sp} {sp_result_in : Sp} (m : Mo K mg) (c_other_color : Cal P w K mg base k "other_color" ["color"] sp_other_color) (c_lead_in : Cal P w K mg base k "lead_in" ["counts", "color"] sp_lead_in) (c_counts_behind : Cal P w K mg base k "counts_behind" ["counts", "color", "word"] sp_counts_behind) (c_liberties_in : Cal P w K mg base k "liberties_in" ["counts", "color"] sp_liberties_in) (c_result_in : Cal P w K mg base k "result_in" ["counts", "first"] sp_result_in) :
    Dv P w K mg base (k + 1) ["counts", "color", "word", "other", "behind"] "result_behind" (defScope s_result_behind) f (defBody s_result_behind) (t_result_behind K sp_other_color sp_lead_in sp_counts_behind sp_liberties_in sp_result_in) := by
  intro cdv A outer s H E hr
  have sc := sc_result_behind
  exact (pss_cons (ps_set (i := 3) sc.nd rfl (Or.inl rfl) (pe_cal c_other_color (hr.mono (by omega)) rfl (pa_cons (pv 1) pa_nil)))
    (pss_cons (ps_if (pt_cmp (pc_isN (pv 2))) (pss_one (ps_ret (pe_ifExp (pt_cmpR op_ge (pe_cal c_lead_in (hr.mono (by omega)) rfl (pa_cons (pv 0) (pa_cons (pv 3) pa_nil))) pe_int (nomark _)) (pv 3) pe_int)))
    pss_nil)
    (pss_cons (ps_set (i := 4) sc.nd rfl (Or.inl rfl) (pe_cal c_counts_behind (hr.mono (by omega)) rfl (pa_cons (pv 0) (pa_cons (pv 1) (pa_cons (pv 2) pa_nil)))))
    (pss_one (ps_ret (pe_ifExp (pt_cmpR (op_eqA hr.units) (pe_cal c_liberties_in (hr.mono (by omega)) rfl (pa_cons (pv 4) (pa_cons (pv 3) pa_nil))) pe_int (nomark _)) (pv 1) (pe_cal c_result_in (hr.mono (by omega)) rfl (pa_cons (pv 4) (pa_cons (pv 3) pa_nil)))))))))
abbrev s_best_in : Stmt := top 45
theorem sc_best_in : FnScope ["counts", "color", "order", "rows", "most", "word", "rank"] ["counts", "color"] (defScope s_best_in) := ⟨rfl, rfl, rfl, by decide +kernel, rfl, by decide +kernel, by decide +kernel⟩
def t_best_in (K : PySem.W.Frag) (sp_other_color : Sp) (sp_moves_in : Sp) (sp_result_behind : Sp) : TS :=
  (tSeq (tAsg (tLst (tCons (tCall sp_other_color [] E0 (tCons (tVar 1) tNil)) (tCons (tC (.int 0)) (tCons (tVar 1) tNil)))) (gName 2))
    (tSeq (tAsg (tLc (iSeq K (tLst (StX.tStar K (tCall sp_moves_in [] E0 (tCons (tVar 0) (tCons (tVar 1) tNil))) (tCons (tC .non) tNil)))) (gName 5) tYes (tTup (tCons (tBM K "list" (rIndex K) (tVar 2) (tCons (tCall sp_result_behind [] E0 (tCons (tVar 0) (tCons (tVar 1) (tCons (tVar 5) tNil)))) tNil)) (tCons (tVar 5) tNil))) [5]) (gName 3))
    (tSeq (tAsg (tCB (rMaxA K) (tCons (tLc (iSeq K (tVar 3)) (gTup K 2 (gCons (gName 6) (gCons (gName 5) gNil))) tYes (tVar 6) [6, 5]) tNil)) (gName 4))
    (tRet (tLc (iSeq K (tVar 3)) (gTup K 2 (gCons (gName 6) (gCons (gName 5) gNil))) (tTest (tOp (rEqA K) (tVar 6) (tVar 4))) (tVar 5) [6, 5])))))
theorem dv_best_in {P : Program} {w : World} {K : PySem.W.Frag} {mg : Str → Option Value} {base : Heap} {k : Nat} {f : Addr} {sp_other_color : Sp} {sp_moves_in : Sp} {sp_result_behind : Sp} (m : Mo K mg) (c_other_color : Cal P w K mg base k "other_color" ["color"] sp_other_color) (c_moves_in : Cal P w K mg base k "moves_in" ["counts", "color"] sp_moves_in) (c_result_behind : Cal P w K mg base k "result_behind" ["counts", "color", "word"] sp_result_behind) :
    Dv P w K mg base (k + 1) ["counts", "color", "order", "rows", "most", "word", "rank"] "best_in" (defScope s_best_in) f (defBody s_best_in) (t_best_in K sp_other_color sp_moves_in sp_result_behind) := by
  intro cdv A outer s H E hr
  have sc := sc_best_in
  exact (pss_cons (ps_set (i := 2) sc.nd rfl (Or.inr rfl) (pe_lst (pa_cons (pe_cal c_other_color (hr.mono (by omega)) rfl (pa_cons (pv 1) pa_nil)) (pa_cons pe_int (pa_cons (pv 1) pa_nil)))))
    (pss_cons (ps_setLc (i := 3) (own := [("word", 5)]) rfl sc.nd rfl rfl (sw_true rfl rfl rfl (by decide +kernel)) (pi_seq (pe_lst (StX.pa_star (pe_cal c_moves_in (hr.mono (by omega)) rfl (pa_cons (pv 0) (pa_cons (pv 1) pa_nil))) (pa_cons pe_non pa_nil)))) (blkOk_by (N := ["counts", "color", "order", "rows", "most", "word", "rank"]) (sc := defScope s_best_in) (by decide +kernel)) (fun _ _ _ _ _ => (pg_name (i := 5) sc.nd rfl (.inl rfl))) (fun _ _ _ _ _ => pts_nil) (fun _ _ _ _ _ => (pe_tup (pa_cons (pe_bm PySem.F.plainAttrs_list PySem.F.slot_list_index PySem.F.type_list_index mt_index (pv 2) (pa_cons (pe_cal c_result_behind (hr.mono (by omega)) rfl (pa_cons (pv 0) (pa_cons (pv 1) (pa_cons (pv 5) pa_nil)))) pa_nil)) (pa_cons (pv 5) pa_nil)))))
    (pss_cons (ps_set (i := 4) sc.nd rfl (Or.inr rfl) (pe_callB (call_maxA rfl) rfl m.n_max boot_max (pa_cons (pe_lc (own := [("rank", 6), ("word", 5)]) rfl sc.nd (pi_seq (pv 3)) (blkOk_by (N := ["counts", "color", "order", "rows", "most", "word", "rank"]) (sc := defScope s_best_in) (by decide +kernel)) (fun _ _ _ _ _ => (pg_tup rfl (pgs_cons (pg_name (i := 6) sc.nd rfl (.inl rfl)) (pgs_cons (pg_name (i := 5) sc.nd rfl (.inl rfl)) pgs_nil)))) (fun _ _ _ _ _ => pts_nil) (fun _ _ _ _ _ => (pv 6))) pa_nil)))
    (pss_one (ps_ret (pe_lc (own := [("rank", 6), ("word", 5)]) rfl sc.nd (pi_seq (pv 3)) (blkOk_by (N := ["counts", "color", "order", "rows", "most", "word", "rank"]) (sc := defScope s_best_in) (by decide +kernel)) (fun _ _ _ _ _ => (pg_tup rfl (pgs_cons (pg_name (i := 6) sc.nd rfl (.inl rfl)) (pgs_cons (pg_name (i := 5) sc.nd rfl (.inl rfl)) pgs_nil)))) (fun _ _ _ _ _ => (pts_one (pt_cmpR (op_eqA hr.units) (pv 6) (pv 4) (nomark _)))) (fun _ _ _ _ _ => (pv 5))))))))
abbrev s_best_race_moves : Stmt := top 46
theorem sc_best_race_moves : FnScope ["race", "color"] ["race", "color"] (defScope s_best_race_moves) := ⟨rfl, rfl, rfl, by decide +kernel, rfl, by decide +kernel, by decide +kernel⟩
def t_best_race_moves (K : PySem.W.Frag) (sp_check_color : Sp) (sp_best_in : Sp) (sp_counts_of : Sp) : TS :=
  (tSeq (tDrop (tCall sp_check_color [] E0 (tCons (tVar 1) tNil)))
    (tRet (tCall sp_best_in [] E0 (tCons (tCall sp_counts_of [] E0 (tCons (tVar 0) tNil)) (tCons (tVar 1) tNil)))))
theorem dv_best_race_moves {P : Program} {w : World} {K : PySem.W.Frag} {mg : Str → Option Value} {base : Heap} {k : Nat} {f : Addr} {sp_check_color : Sp} {sp_best_in : Sp} {sp_counts_of : Sp} (m : Mo K mg) (c_check_color : Cal P w K mg base k "check_color" ["color"] sp_check_color) (c_best_in : Cal P w K mg base k "best_in" ["counts", "color"] sp_best_in) (c_counts_of : Cal P w K mg base k "counts_of" ["race"] sp_counts_of) :
    Dv P w K mg base (k + 1) ["race", "color"] "best_race_moves" (defScope s_best_race_moves) f (defBody s_best_race_moves) (t_best_race_moves K sp_check_color sp_best_in sp_counts_of) := by
  intro cdv A outer s H E hr
  have sc := sc_best_race_moves
  exact (pss_cons (ps_expr (pe_cal c_check_color (hr.mono (by omega)) rfl (pa_cons (pv 1) pa_nil)))
    (pss_one (ps_ret (pe_cal c_best_in (hr.mono (by omega)) rfl (pa_cons (pe_cal c_counts_of (hr.mono (by omega)) rfl (pa_cons (pv 0) pa_nil)) (pa_cons (pv 1) pa_nil))))))
abbrev s_outside_to_take : Stmt := top 47
theorem sc_outside_to_take : FnScope ["race", "color", "first"] ["race", "color", "first"] (defScope s_outside_to_take) := ⟨rfl, rfl, rfl, by decide +kernel, rfl, by decide +kernel, by decide +kernel⟩
def t_outside_to_take (K : PySem.W.Frag) (sp_check_color : Sp) (sp_check_first : Sp) (sp_lead_in : Sp) (sp_counts_of : Sp) : TS :=
  (tSeq (tDrop (tCall sp_check_color [] E0 (tCons (tVar 1) tNil)))
    (tSeq (tDrop (tCall sp_check_first [] E0 (tCons (tVar 2) tNil)))
    (tRet (tCB (rMaxA K) (tCons (tC (.int 0)) (tCons (tOp (rI0 fun i j => .int (i - j)) (tCB rIntO (tCons (tOp (rNeA K) (tVar 1) (tVar 2)) tNil)) (tCall sp_lead_in [] E0 (tCons (tCall sp_counts_of [] E0 (tCons (tVar 0) tNil)) (tCons (tVar 1) tNil)))) tNil))))))
theorem dv_outside_to_take {P : Program} {w : World} {K : PySem.W.Frag} {mg : Str → Option Value} {base : Heap} {k : Nat} {f : Addr} {sp_check_color : Sp} {sp_check_first : Sp} {sp_lead_in : Sp} {sp_counts_of : Sp} (m : Mo K mg) (c_check_color : Cal P w K mg base k "check_color" ["color"] sp_check_color) (c_check_first : Cal P w K mg base k "check_first" ["first"] sp_check_first) (c_lead_in : Cal P w K mg base k "lead_in" ["counts", "color"] sp_lead_in) (c_counts_of : Cal P w K mg base k "counts_of" ["race"] sp_counts_of) :
    Dv P w K mg base (k + 1) ["race", "color", "first"] "outside_to_take" (defScope s_outside_to_take) f (defBody s_outside_to_take) (t_outside_to_take K sp_check_color sp_check_first sp_lead_in sp_counts_of) := by
  intro cdv A outer s H E hr
  have sc := sc_outside_to_take
  exact (pss_cons (ps_expr (pe_cal c_check_color (hr.mono (by omega)) rfl (pa_cons (pv 1) pa_nil)))
    (pss_cons (ps_expr (pe_cal c_check_first (hr.mono (by omega)) rfl (pa_cons (pv 2) pa_nil)))
    (pss_one (ps_ret (pe_callB (call_maxA rfl) rfl m.n_max boot_max (pa_cons pe_int (pa_cons (pe_op op_sub (pe_callTy call_int1 rfl m.n_int boot_int (pa_cons (pe_cmpR (op_neA hr.units) (pv 1) (pv 2) (nomark _)) pa_nil)) (pe_cal c_lead_in (hr.mono (by omega)) rfl (pa_cons (pe_cal c_counts_of (hr.mono (by omega)) rfl (pa_cons (pv 0) pa_nil)) (pa_cons (pv 1) pa_nil)))) pa_nil)))))))
abbrev s_outside_to_stay : Stmt := top 48
theorem sc_outside_to_stay : FnScope ["race", "color", "first"] ["race", "color", "first"] (defScope s_outside_to_stay) := ⟨rfl, rfl, rfl, by decide +kernel, rfl, by decide +kernel, by decide +kernel⟩
def t_outside_to_stay (K : PySem.W.Frag) (sp_check_color : Sp) (sp_check_first : Sp) (sp_lead_in : Sp) (sp_counts_of : Sp) (sp_other_color : Sp) : TS :=
  (tSeq (tDrop (tCall sp_check_color [] E0 (tCons (tVar 1) tNil)))
    (tSeq (tDrop (tCall sp_check_first [] E0 (tCons (tVar 2) tNil)))
    (tRet (tCB (rMaxA K) (tCons (tC (.int 0)) (tCons (tOp (rPlus K) (tCall sp_lead_in [] E0 (tCons (tCall sp_counts_of [] E0 (tCons (tVar 0) tNil)) (tCons (tCall sp_other_color [] E0 (tCons (tVar 1) tNil)) tNil))) (tCB rIntO (tCons (tOp (rNeA K) (tVar 1) (tVar 2)) tNil))) tNil))))))
theorem dv_outside_to_stay {P : Program} {w : World} {K : PySem.W.Frag} {mg : Str → Option Value} {base : Heap} {k : Nat} {f : Addr} {sp_check_color : Sp} {sp_check_first : Sp} {sp_lead_in : Sp} {sp_counts_of : Sp} {sp_other_color : Sp} (m : Mo K mg) (c_check_color : Cal P w K mg base k "check_color" ["color"] sp_check_color) (c_check_first : Cal P w K mg base k "check_first" ["first"] sp_check_first) (c_lead_in : Cal P w K mg base k "lead_in" ["counts", "color"] sp_lead_in) (c_counts_of : Cal P w K mg base k "counts_of" ["race"] sp_counts_of) (c_other_color : Cal P w K mg base k "other_color" ["color"] sp_other_color) :
    Dv P w K mg base (k + 1) ["race", "color", "first"] "outside_to_stay" (defScope s_outside_to_stay) f (defBody s_outside_to_stay) (t_outside_to_stay K sp_check_color sp_check_first sp_lead_in sp_counts_of sp_other_color) := by
  intro cdv A outer s H E hr
  have sc := sc_outside_to_stay
  exact (pss_cons (ps_expr (pe_cal c_check_color (hr.mono (by omega)) rfl (pa_cons (pv 1) pa_nil)))
    (pss_cons (ps_expr (pe_cal c_check_first (hr.mono (by omega)) rfl (pa_cons (pv 2) pa_nil)))
    (pss_one (ps_ret (pe_callB (call_maxA rfl) rfl m.n_max boot_max (pa_cons pe_int (pa_cons (pe_op op_plus (pe_cal c_lead_in (hr.mono (by omega)) rfl (pa_cons (pe_cal c_counts_of (hr.mono (by omega)) rfl (pa_cons (pv 0) pa_nil)) (pa_cons (pe_cal c_other_color (hr.mono (by omega)) rfl (pa_cons (pv 1) pa_nil)) pa_nil))) (pe_callTy call_int1 rfl m.n_int boot_int (pa_cons (pe_cmpR (op_neA hr.units) (pv 1) (pv 2) (nomark _)) pa_nil))) pa_nil)))))))
abbrev s__law_cell : Stmt := top 50
theorem sc__law_cell : FnScope ["script", "k"] ["script", "k"] (defScope s__law_cell) := ⟨rfl, rfl, rfl, by decide +kernel, rfl, by decide +kernel, by decide +kernel⟩
def t__law_cell (K : PySem.W.Frag) : TS :=
  (tRet (tIf (tTest (tOp (rI0 fun i j => .bl (decide (i < j))) (tVar 1) (tCB (rLen K) (tCons (tVar 0) tNil)))) (tOp (rIx K) (tVar 0) (tVar 1)) (tOp (rPlus K) (tOp (rI CMul fun i j => .int (i * j)) (tC (.int 8181)) (tVar 1)) (tOp (rI (fun _ j => 0 < j) fun i j => .int (i % j)) (tCB rIntO (tCons (tCB (rSum K) (tCons (tSl (rSlSeq K) (tVar 0) tNoPart (tPart (tC (.int 1)))) tNil)) tNil)) (tC (.int 1000211))))))
theorem dv__law_cell {P : Program} {w : World} {K : PySem.W.Frag} {mg : Str → Option Value} {base : Heap} {k : Nat} {f : Addr} (m : Mo K mg) :
    Dv P w K mg base (k + 1) ["script", "k"] "_law_cell" (defScope s__law_cell) f (defBody s__law_cell) (t__law_cell K) := by
  intro cdv A outer s H E hr
  have sc := sc__law_cell
  exact (pss_one (ps_ret (pe_ifExp (pt_cmpR op_lt (pv 1) (pe_callB call_len rfl m.n_len boot_len (pa_cons (pv 0) pa_nil)) (nomark _)) (pe_ix ix_seq (pv 0) (pv 1) (fun _ _ => rfl)) (pe_op op_plus (pe_op op_mul pe_int (pv 1)) (pe_op op_mod (pe_callTy call_int1 rfl m.n_int boot_int (pa_cons (pe_callB (cr_sum rfl) rfl m.n_sum boot_sum (pa_cons (pe_slice sl_seq (pv 0) po_none (po_some pe_int)) pa_nil)) pa_nil)) pe_int)))))
abbrev s__law_box : Stmt := top 51
theorem sc__law_box : FnScope ["great"] ["great"] (defScope s__law_box) := ⟨rfl, rfl, rfl, by decide +kernel, rfl, by decide +kernel, by decide +kernel⟩
def t__law_box (K : PySem.W.Frag) : TS :=
  (tRet (tLst (tCons (tCB rAbsO (tCons (tVar 0) tNil)) (tCons (tOp (rI0 fun i j => .bl (decide (j ≤ i))) (tCB rAbsO (tCons (tVar 0) tNil)) (tOp (rI CPow fun i j => .int (i ^ j.toNat)) (tC (.int 10)) (tC (.int 18)))) (tCons (tOp (rI (fun _ j => 0 < j) fun i j => .int (i % j)) (tCB rIntO (tCons (tCB rAbsO (tCons (tVar 0) tNil)) tNil)) (tC (.int 2147483629))) (tCons (tC (.int 0)) tNil))))))
theorem dv__law_box {P : Program} {w : World} {K : PySem.W.Frag} {mg : Str → Option Value} {base : Heap} {k : Nat} {f : Addr} (m : Mo K mg) :
    Dv P w K mg base (k + 1) ["great"] "_law_box" (defScope s__law_box) f (defBody s__law_box) (t__law_box K) := by
  intro cdv A outer s H E hr
  have sc := sc__law_box
  exact (pss_one (ps_ret (pe_lst (pa_cons (pe_callB call_abs rfl m.n_abs boot_abs (pa_cons (pv 0) pa_nil)) (pa_cons (pe_cmpR op_ge (pe_callB call_abs rfl m.n_abs boot_abs (pa_cons (pv 0) pa_nil)) (pe_op op_pow pe_int pe_int) (nomark _)) (pa_cons (pe_op op_mod (pe_callTy call_int1 rfl m.n_int boot_int (pa_cons (pe_callB call_abs rfl m.n_abs boot_abs (pa_cons (pv 0) pa_nil)) pa_nil)) pe_int) (pa_cons pe_int pa_nil)))))))
abbrev s__law_take : Stmt := top 52
theorem sc__law_take : FnScope ["box", "many", "digit", "mixed"] ["box", "many"] (defScope s__law_take) := ⟨rfl, rfl, rfl, by decide +kernel, rfl, by decide +kernel, by decide +kernel⟩
def t__law_take (K : PySem.W.Frag) : TS :=
  (tSeq (tIfS (tAnd (tB (tOp (rIx K) (tVar 0) (tC (.int 1)))) (tTest (tOp (rI0 fun i j => .bl (decide (j < i))) (tOp (rIx K) (tVar 0) (tC (.int 0))) (tC (.int 0))))) (tSeq (tAsg (tOp (rI (fun _ j => 0 < j) fun i j => .int (i % j)) (tCB rIntO (tCons (tOp (rIx K) (tVar 0) (tC (.int 0))) tNil)) (tVar 1)) (gName 2))
    (tSeq (tAsg (tOp (rI CDiv fun i j => .int (i / j)) (tOp (rIx K) (tVar 0) (tC (.int 0))) (tVar 1)) (gSub (tVar 0) (tC (.int 0)) rSetL))
    (tRet (tVar 2))))
    tNext)
    (tSeq (tAsg (tOp (rPlus K) (tOp (rIx K) (tVar 0) (tC (.int 3))) (tC (.int 1))) (gSub (tVar 0) (tC (.int 3)) rSetL))
    (tSeq (tAsg (tOp (rI (fun _ j => 0 < j) fun i j => .int (i % j)) (tCB rIntO (tCons (tOp (rI CPow fun i j => .int (i ^ j.toNat)) (tOp (rPlus K) (tOp (rPlus K) (tOp (rIx K) (tVar 0) (tC (.int 2))) (tOp (rI CMul fun i j => .int (i * j)) (tC (.int 15487481)) (tOp (rIx K) (tVar 0) (tC (.int 3))))) (tC (.int 179426373))) (tC (.int 5))) tNil)) (tC (.int 2147483647))) (gName 3))
    (tRet (tOp (rI (fun _ j => 0 < j) fun i j => .int (i % j)) (tCB rIntO (tCons (tOp (rI CDiv fun i j => .int (i / j)) (tOp (rI (fun _ j => 0 < j) fun i j => .int (i % j)) (tCB rIntO (tCons (tOp (rI CPow fun i j => .int (i ^ j.toNat)) (tOp (rPlus K) (tOp (rI CMul fun i j => .int (i * j)) (tVar 3) (tC (.int 48271))) (tOp (rI CMul fun i j => .int (i * j)) (tC (.int 9059)) (tOp (rIx K) (tVar 0) (tC (.int 3))))) (tC (.int 3))) tNil)) (tC (.int 2147483587))) (tC (.int 64))) tNil)) (tVar 1))))))
theorem dv__law_take {P : Program} {w : World} {K : PySem.W.Frag} {mg : Str → Option Value} {base : Heap} {k : Nat} {f : Addr} (m : Mo K mg) :
    Dv P w K mg base (k + 1) ["box", "many", "digit", "mixed"] "_law_take" (defScope s__law_take) f (defBody s__law_take) (t__law_take K) := by
  intro cdv A outer s H E hr
  have sc := sc__law_take
  exact (pss_cons (ps_if (PW.pt (pw_and (pt_val (pe_ix ix_seq (pv 0) pe_int (fun _ _ => rfl))) (pw_and1 (pt_cmpR op_gt (pe_ix ix_seq (pv 0) pe_int (fun _ _ => rfl)) pe_int (nomark _))))) (pss_cons (ps_set (i := 2) sc.nd rfl (Or.inl rfl) (pe_op op_mod (pe_callTy call_int1 rfl m.n_int boot_int (pa_cons (pe_ix ix_seq (pv 0) pe_int (fun _ _ => rfl)) pa_nil)) (pv 1)))
    (pss_cons (ps_asg (pe_op op_fdiv (pe_ix ix_seq (pv 0) pe_int (fun _ _ => rfl)) (pv 1)) (pg_sub (pv 0) pe_int set_list))
    (pss_one (ps_ret (pv 2)))))
    pss_nil)
    (pss_cons (ps_asg (pe_op op_plus (pe_ix ix_seq (pv 0) pe_int (fun _ _ => rfl)) pe_int) (pg_sub (pv 0) pe_int set_list))
    (pss_cons (ps_set (i := 3) sc.nd rfl (Or.inl rfl) (pe_op op_mod (pe_callTy call_int1 rfl m.n_int boot_int (pa_cons (pe_op op_pow (pe_op op_plus (pe_op op_plus (pe_ix ix_seq (pv 0) pe_int (fun _ _ => rfl)) (pe_op op_mul pe_int (pe_ix ix_seq (pv 0) pe_int (fun _ _ => rfl)))) pe_int) pe_int) pa_nil)) pe_int))
    (pss_one (ps_ret (pe_op op_mod (pe_callTy call_int1 rfl m.n_int boot_int (pa_cons (pe_op op_fdiv (pe_op op_mod (pe_callTy call_int1 rfl m.n_int boot_int (pa_cons (pe_op op_pow (pe_op op_plus (pe_op op_mul (pv 3) pe_int) (pe_op op_mul pe_int (pe_ix ix_seq (pv 0) pe_int (fun _ _ => rfl)))) pe_int) pa_nil)) pe_int) pe_int) pa_nil)) (pv 1)))))))
abbrev s__law_pick : Stmt := top 53
theorem sc__law_pick : FnScope ["box", "items"] ["box", "items"] (defScope s__law_pick) := ⟨rfl, rfl, rfl, by decide +kernel, rfl, by decide +kernel, by decide +kernel⟩
def t__law_pick (K : PySem.W.Frag) (sp__law_take : Sp) : TS :=
  (tRet (tOp (rIx K) (tVar 1) (tCall sp__law_take [] E0 (tCons (tVar 0) (tCons (tCB (rLen K) (tCons (tVar 1) tNil)) tNil)))))
theorem dv__law_pick {P : Program} {w : World} {K : PySem.W.Frag} {mg : Str → Option Value} {base : Heap} {k : Nat} {f : Addr} {sp__law_take : Sp} (m : Mo K mg) (c__law_take : Cal P w K mg base k "_law_take" ["box", "many"] sp__law_take) :
    Dv P w K mg base (k + 1) ["box", "items"] "_law_pick" (defScope s__law_pick) f (defBody s__law_pick) (t__law_pick K sp__law_take) := by
  intro cdv A outer s H E hr
  have sc := sc__law_pick
  exact (pss_one (ps_ret (pe_ix ix_seq (pv 1) (pe_cal c__law_take (hr.mono (by omega)) rfl (pa_cons (pv 0) (pa_cons (pe_callB call_len rfl m.n_len boot_len (pa_cons (pv 1) pa_nil)) pa_nil))) (fun _ _ => rfl))))
abbrev s__law_whole : Stmt := top 54
theorem sc__law_whole : FnScope ["value"] ["value"] (defScope s__law_whole) := ⟨rfl, rfl, rfl, by decide +kernel, rfl, by decide +kernel, by decide +kernel⟩
def t__law_whole (K : PySem.W.Frag) : TS :=
  (tRet (tAndV (tCB (rIsi K) (tCons (tVar 0) (tCons (tC (.ty "int")) tNil))) (tNotV (tCB (rIsi K) (tCons (tVar 0) (tCons (tC (.ty "bool")) tNil))))))
theorem dv__law_whole {P : Program} {w : World} {K : PySem.W.Frag} {mg : Str → Option Value} {base : Heap} {k : Nat} {f : Addr} (m : Mo K mg) :
    Dv P w K mg base (k + 1) ["value"] "_law_whole" (defScope s__law_whole) f (defBody s__law_whole) (t__law_whole K) := by
  intro cdv A outer s H E hr
  have sc := sc__law_whole
  exact (pss_one (ps_ret (pe_and (pe_callB call_isi rfl m.n_isinstance boot_isinstance (pa_cons (pv 0) (pa_cons (pe_bltn rfl m.n_int boot_int rfl) pa_nil))) (pe_one (pe_not (pe_callB call_isi rfl m.n_isinstance boot_isinstance (pa_cons (pv 0) (pa_cons (pe_bltn rfl m.n_bool boot_bool rfl) pa_nil))))))))
abbrev s__law_is : Stmt := top 55
theorem sc__law_is : FnScope ["given", "due", "k"] ["given", "due"] (defScope s__law_is) := ⟨rfl, rfl, rfl, by decide +kernel, rfl, by decide +kernel, by decide +kernel⟩
def t__law_is (K : PySem.W.Frag) (sp__law_whole : Sp) (sp__law_is : Sp) : TS :=
  (tSeq (tIfS (tOr (tB (tIsN (tVar 1))) (tB (tCB (rIsi K) (tCons (tVar 1) (tCons (tC (.ty "bool")) tNil))))) (tRet (tIf (tB (tIsN (tVar 1))) (tIsN (tVar 0)) (tAndV (tCB (rIsi K) (tCons (tVar 0) (tCons (tC (.ty "bool")) tNil))) (tOp (rEqA K) (tOp (fun x y H Q => ∃ a b : Bool, x = .bl a ∧ y = .bl b ∧ Q (.bl (decide (a = b))) H) (tVar 0) (tC (.bl true))) (tOp (fun x y H Q => ∃ a b : Bool, x = .bl a ∧ y = .bl b ∧ Q (.bl (decide (a = b))) H) (tVar 1) (tC (.bl true)))))))
    tNext)
    (tSeq (tIfS (tB (tCB (rIsi K) (tCons (tVar 1) (tCons (tC (.ty "int")) tNil)))) (tRet (tAndV (tCall sp__law_whole [] E0 (tCons (tVar 0) tNil)) (tOp (rEqA K) (tOp (rI0 fun i j => .int (i - j)) (tCB rIntO (tCons (tVar 0) tNil)) (tVar 1)) (tC (.int 0)))))
    tNext)
    (tSeq (tIfS (tB (tCB (rIsi K) (tCons (tVar 1) (tCons (tC (.ty "str")) tNil)))) (tRet (tAndV (tCB (rIsi K) (tCons (tVar 0) (tCons (tC (.ty "str")) tNil))) (tAndV (tOp (rEqA K) (tCB (rLen K) (tCons (tVar 0) tNil)) (tCB (rLen K) (tCons (tVar 1) tNil))) (tOp (rEqA K) (tLc (iRng1 (tCons (tCB (rLen K) (tCons (tVar 1) tNil)) tNil)) (gName 2) (tTest (tOp (rNeA K) (tSl (rSlSeq K) (tVar 0) (tPart (tVar 2)) (tPart (tOp (rPlus K) (tVar 2) (tC (.int 1))))) (tOp (rIx K) (tVar 1) (tVar 2)))) (tVar 2) [2]) (tLst tNil)))))
    tNext)
    (tSeq (tIfS (tOr (tNot (tB (tCB (rIsiT K) (tCons (tVar 1) (tCons (tTup (tCons (tC (.ty "list")) (tCons (tC (.ty "tuple")) tNil))) tNil))))) (tOr (tTest (tOp (rNeA K) (tCB (rIsi K) (tCons (tVar 0) (tCons (tC (.ty "list")) tNil))) (tCB (rIsi K) (tCons (tVar 1) (tCons (tC (.ty "list")) tNil))))) (tTest (tOp (rNeA K) (tCB (rIsi K) (tCons (tVar 0) (tCons (tC (.ty "tuple")) tNil))) (tCB (rIsi K) (tCons (tVar 1) (tCons (tC (.ty "tuple")) tNil))))))) (tRet (tC (.bl false)))
    tNext)
    (tRet (tAndV (tOp (rEqA K) (tCB (rLen K) (tCons (tVar 0) tNil)) (tCB (rLen K) (tCons (tVar 1) tNil))) (tOp (rEqA K) (tLc (iRng1 (tCons (tCB (rLen K) (tCons (tVar 1) tNil)) tNil)) (gName 2) (tNot (tB (tCall sp__law_is [] E0 (tCons (tOp (rIx K) (tVar 0) (tVar 2)) (tCons (tOp (rIx K) (tVar 1) (tVar 2)) tNil))))) (tVar 2) [2]) (tLst tNil))))))))
theorem dv__law_is {P : Program} {w : World} {K : PySem.W.Frag} {mg : Str → Option Value} {base : Heap} {k : Nat} {f : Addr} {sp__law_whole : Sp} {sp__law_is : Sp} (m : Mo K mg) (c__law_whole : Cal P w K mg base k "_law_whole" ["value"] sp__law_whole) (c__law_is : Cal P w K mg base k "_law_is" ["given", "due"] sp__law_is) :
    Dv P w K mg base (k + 1) ["given", "due", "k"] "_law_is" (defScope s__law_is) f (defBody s__law_is) (t__law_is K sp__law_whole sp__law_is) := by
  intro cdv A outer s H E hr
  have sc := sc__law_is
  exact (pss_cons (ps_if (PW.pt (pw_or (pt_cmp (pc_isN (pv 1))) (pw_or1 (pt_val (pe_callB call_isi rfl m.n_isinstance boot_isinstance (pa_cons (pv 1) (pa_cons (pe_bltn rfl m.n_bool boot_bool rfl) pa_nil))))))) (pss_one (ps_ret (pe_ifExp (pt_cmp (pc_isN (pv 1))) (pe_cmp (pc_isN (pv 0))) (pe_and (pe_callB call_isi rfl m.n_isinstance boot_isinstance (pa_cons (pv 0) (pa_cons (pe_bltn rfl m.n_bool boot_bool rfl) pa_nil))) (pe_one (pe_cmpR (op_eqA hr.units) (pe_cmpR op_is_bl (pv 0) pe_bl (nomark _)) (pe_cmpR op_is_bl (pv 1) pe_bl (nomark _)) (nomark _)))))))
    pss_nil)
    (pss_cons (ps_if (pt_val (pe_callB call_isi rfl m.n_isinstance boot_isinstance (pa_cons (pv 1) (pa_cons (pe_bltn rfl m.n_int boot_int rfl) pa_nil)))) (pss_one (ps_ret (pe_and (pe_cal c__law_whole (hr.mono (by omega)) rfl (pa_cons (pv 0) pa_nil)) (pe_one (pe_cmpR (op_eqA hr.units) (pe_op op_sub (pe_callTy call_int1 rfl m.n_int boot_int (pa_cons (pv 0) pa_nil)) (pv 1)) pe_int (nomark _))))))
    pss_nil)
    (pss_cons (ps_if (pt_val (pe_callB call_isi rfl m.n_isinstance boot_isinstance (pa_cons (pv 1) (pa_cons (pe_bltn rfl m.n_str boot_str rfl) pa_nil)))) (pss_one (ps_ret (pe_and (pe_callB call_isi rfl m.n_isinstance boot_isinstance (pa_cons (pv 0) (pa_cons (pe_bltn rfl m.n_str boot_str rfl) pa_nil))) (pe_and (pe_cmpR (op_eqA hr.units) (pe_callB call_len rfl m.n_len boot_len (pa_cons (pv 0) pa_nil)) (pe_callB call_len rfl m.n_len boot_len (pa_cons (pv 1) pa_nil)) (nomark _)) (pe_one (pe_cmpR (op_eqA hr.units) (pe_lc (own := [("k", 2)]) rfl sc.nd (pi_range1 rfl m.n_range (pa_cons (pe_callB call_len rfl m.n_len boot_len (pa_cons (pv 1) pa_nil)) pa_nil)) (blkOk_by (N := ["given", "due", "k"]) (sc := defScope s__law_is) (by decide +kernel)) (fun _ _ _ _ _ => (pg_name (i := 2) sc.nd rfl (.inl rfl))) (fun _ _ _ _ _ => (pts_one (pt_cmpR (op_neA hr.units) (pe_slice sl_seq (pv 0) (po_some (pv 2)) (po_some (pe_op op_plus (pv 2) pe_int))) (pe_ix ix_seq (pv 1) (pv 2) (fun _ _ => rfl)) (nomark _)))) (fun _ _ _ _ _ => (pv 2))) (pe_lst pa_nil) (nomark _)))))))
    pss_nil)
    (pss_cons (ps_if (PW.pt (pw_or (pt_not (pt_val (pe_callB call_isiT rfl m.n_isinstance boot_isinstance (pa_cons (pv 1) (pa_cons (pe_tup (pa_cons (pe_bltn rfl m.n_list boot_list rfl) (pa_cons (pe_bltn rfl m.n_tuple boot_tuple rfl) pa_nil))) pa_nil))))) (pw_or (pt_cmpR (op_neA hr.units) (pe_callB call_isi rfl m.n_isinstance boot_isinstance (pa_cons (pv 0) (pa_cons (pe_bltn rfl m.n_list boot_list rfl) pa_nil))) (pe_callB call_isi rfl m.n_isinstance boot_isinstance (pa_cons (pv 1) (pa_cons (pe_bltn rfl m.n_list boot_list rfl) pa_nil))) (nomark _)) (pw_or1 (pt_cmpR (op_neA hr.units) (pe_callB call_isi rfl m.n_isinstance boot_isinstance (pa_cons (pv 0) (pa_cons (pe_bltn rfl m.n_tuple boot_tuple rfl) pa_nil))) (pe_callB call_isi rfl m.n_isinstance boot_isinstance (pa_cons (pv 1) (pa_cons (pe_bltn rfl m.n_tuple boot_tuple rfl) pa_nil))) (nomark _)))))) (pss_one (ps_ret pe_bl))
    pss_nil)
    (pss_one (ps_ret (pe_and (pe_cmpR (op_eqA hr.units) (pe_callB call_len rfl m.n_len boot_len (pa_cons (pv 0) pa_nil)) (pe_callB call_len rfl m.n_len boot_len (pa_cons (pv 1) pa_nil)) (nomark _)) (pe_one (pe_cmpR (op_eqA hr.units) (pe_lc (own := [("k", 2)]) rfl sc.nd (pi_range1 rfl m.n_range (pa_cons (pe_callB call_len rfl m.n_len boot_len (pa_cons (pv 1) pa_nil)) pa_nil)) (blkOk_by (N := ["given", "due", "k"]) (sc := defScope s__law_is) (by decide +kernel)) (fun _ _ _ _ _ => (pg_name (i := 2) sc.nd rfl (.inl rfl))) (fun _ _ _ _ _ => (pts_one (pt_not (pt_val (pe_cal c__law_is (hr.mono (by omega)) rfl (pa_cons (pe_ix ix_seq (pv 0) (pv 2) (fun _ _ => rfl)) (pa_cons (pe_ix ix_seq (pv 1) (pv 2) (fun _ _ => rfl)) pa_nil))))))) (fun _ _ _ _ _ => (pv 2))) (pe_lst pa_nil) (nomark _))))))))))
abbrev s__law_total : Stmt := top 56
theorem sc__law_total : FnScope ["race", "color"] ["race", "color"] (defScope s__law_total) := ⟨rfl, rfl, rfl, by decide +kernel, rfl, by decide +kernel, by decide +kernel⟩
def t__law_total (K : PySem.W.Frag) : TS :=
  (tRet (tOp (rPlus K) (tOp (rPlus K) (tOp (rIx K) (tVar 0) (tOp (rI0 fun i j => .int (i - j)) (tVar 1) (tC (.int 1)))) (tOp (rIx K) (tVar 0) (tC (.int 2)))) (tOp (rIx K) (tVar 0) (tOp (rPlus K) (tC (.int 2)) (tVar 1)))))
theorem dv__law_total {P : Program} {w : World} {K : PySem.W.Frag} {mg : Str → Option Value} {base : Heap} {k : Nat} {f : Addr} (m : Mo K mg) :
    Dv P w K mg base (k + 1) ["race", "color"] "_law_total" (defScope s__law_total) f (defBody s__law_total) (t__law_total K) := by
  intro cdv A outer s H E hr
  have sc := sc__law_total
  exact (pss_one (ps_ret (pe_op op_plus (pe_op op_plus (pe_ix ix_seq (pv 0) (pe_op op_sub (pv 1) pe_int) (fun _ _ => rfl)) (pe_ix ix_seq (pv 0) pe_int (fun _ _ => rfl))) (pe_ix ix_seq (pv 0) (pe_op op_plus pe_int (pv 1)) (fun _ _ => rfl)))))
abbrev s__law_need : Stmt := top 57
theorem sc__law_need : FnScope ["race", "color", "own", "other"] ["race", "color"] (defScope s__law_need) := ⟨rfl, rfl, rfl, by decide +kernel, rfl, by decide +kernel, by decide +kernel⟩
def t__law_need (K : PySem.W.Frag) : TS :=
  (tSeq (tIfS (tTest (tOp (rEqA K) (tOp (rIx K) (tVar 0) (tC (.int 2))) (tC (.int 0)))) (tRet (tC (.int 0)))
    tNext)
    (tSeq (tPar 2 3 (tCons (tOp (rI0 fun i j => .bl (decide (j < i))) (tOp (rIx K) (tVar 0) (tOp (rPlus K) (tC (.int 2)) (tVar 1))) (tC (.int 0))) (tCons (tOp (rI0 fun i j => .bl (decide (j < i))) (tOp (rIx K) (tVar 0) (tOp (rI0 fun i j => .int (i - j)) (tC (.int 5)) (tVar 1))) (tC (.int 0))) tNil)))
    (tSeq (tIfS (tTest (tOp (rEqA K) (tVar 2) (tVar 3))) (tRet (tIf (tB (tVar 2)) (tOp (rIx K) (tVar 0) (tC (.int 2))) (tOp (rI0 fun i j => .int (i - j)) (tOp (rIx K) (tVar 0) (tC (.int 2))) (tC (.int 1)))))
    tNext)
    (tRet (tIf (tB (tVar 2)) (tOp (rI0 fun i j => .int (i - j)) (tC (.int 0)) (tOp (rIx K) (tVar 0) (tC (.int 2)))) (tOp (rIx K) (tVar 0) (tC (.int 2))))))))
theorem dv__law_need {P : Program} {w : World} {K : PySem.W.Frag} {mg : Str → Option Value} {base : Heap} {k : Nat} {f : Addr} (m : Mo K mg) :
    Dv P w K mg base (k + 1) ["race", "color", "own", "other"] "_law_need" (defScope s__law_need) f (defBody s__law_need) (t__law_need K) := by
  intro cdv A outer s H E hr
  have sc := sc__law_need
  exact (pss_cons (ps_if (pt_cmpR (op_eqA hr.units) (pe_ix ix_seq (pv 0) pe_int (fun _ _ => rfl)) pe_int (nomark _)) (pss_one (ps_ret pe_int))
    pss_nil)
    (pss_cons (ps_par (i := 2) (j := 3) rfl sc.nd rfl rfl (by decide) rfl rfl (pa_cons (pe_cmpR op_gt (pe_ix ix_seq (pv 0) (pe_op op_plus pe_int (pv 1)) (fun _ _ => rfl)) pe_int (nomark _)) (pa_cons (pe_cmpR op_gt (pe_ix ix_seq (pv 0) (pe_op op_sub pe_int (pv 1)) (fun _ _ => rfl)) pe_int (nomark _)) pa_nil)) rfl)
    (pss_cons (ps_if (pt_cmpR (op_eqA hr.units) (pv 2) (pv 3) (nomark _)) (pss_one (ps_ret (pe_ifExp (pt_val (pv 2)) (pe_ix ix_seq (pv 0) pe_int (fun _ _ => rfl)) (pe_op op_sub (pe_ix ix_seq (pv 0) pe_int (fun _ _ => rfl)) pe_int))))
    pss_nil)
    (pss_one (ps_ret (pe_ifExp (pt_val (pv 2)) (pe_op op_sub pe_int (pe_ix ix_seq (pv 0) pe_int (fun _ _ => rfl))) (pe_ix ix_seq (pv 0) pe_int (fun _ _ => rfl))))))))
abbrev s__law_lead : Stmt := top 58
theorem sc__law_lead : FnScope ["race", "color"] ["race", "color"] (defScope s__law_lead) := ⟨rfl, rfl, rfl, by decide +kernel, rfl, by decide +kernel, by decide +kernel⟩
def t__law_lead (K : PySem.W.Frag) (sp__law_need : Sp) : TS :=
  (tRet (tOp (rI0 fun i j => .int (i - j)) (tOp (rI0 fun i j => .int (i - j)) (tOp (rI0 fun i j => .int (i - j)) (tOp (rPlus K) (tOp (rIx K) (tVar 0) (tOp (rI0 fun i j => .int (i - j)) (tVar 1) (tC (.int 1)))) (tOp (rIx K) (tVar 0) (tOp (rPlus K) (tC (.int 2)) (tVar 1)))) (tOp (rIx K) (tVar 0) (tOp (rI0 fun i j => .int (i - j)) (tC (.int 2)) (tVar 1)))) (tOp (rIx K) (tVar 0) (tOp (rI0 fun i j => .int (i - j)) (tC (.int 5)) (tVar 1)))) (tCall sp__law_need [] E0 (tCons (tVar 0) (tCons (tVar 1) tNil)))))
theorem dv__law_lead {P : Program} {w : World} {K : PySem.W.Frag} {mg : Str → Option Value} {base : Heap} {k : Nat} {f : Addr} {sp__law_need : Sp} (m : Mo K mg) (c__law_need : Cal P w K mg base k "_law_need" ["race", "color"] sp__law_need) :
    Dv P w K mg base (k + 1) ["race", "color"] "_law_lead" (defScope s__law_lead) f (defBody s__law_lead) (t__law_lead K sp__law_need) := by
  intro cdv A outer s H E hr
  have sc := sc__law_lead
  exact (pss_one (ps_ret (pe_op op_sub (pe_op op_sub (pe_op op_sub (pe_op op_plus (pe_ix ix_seq (pv 0) (pe_op op_sub (pv 1) pe_int) (fun _ _ => rfl)) (pe_ix ix_seq (pv 0) (pe_op op_plus pe_int (pv 1)) (fun _ _ => rfl))) (pe_ix ix_seq (pv 0) (pe_op op_sub pe_int (pv 1)) (fun _ _ => rfl))) (pe_ix ix_seq (pv 0) (pe_op op_sub pe_int (pv 1)) (fun _ _ => rfl))) (pe_cal c__law_need (hr.mono (by omega)) rfl (pa_cons (pv 0) (pa_cons (pv 1) pa_nil))))))
abbrev s__law_result : Stmt := top 59
theorem sc__law_result : FnScope ["race", "first"] ["race", "first"] (defScope s__law_result) := ⟨rfl, rfl, rfl, by decide +kernel, rfl, by decide +kernel, by decide +kernel⟩
def t__law_result (K : PySem.W.Frag) (sp__law_lead : Sp) : TS :=
  (tSeq (tIfS (tTest (tOp (rI0 fun i j => .bl (decide (j ≤ i))) (tCall sp__law_lead [] E0 (tCons (tVar 0) (tCons (tVar 1) tNil))) (tC (.int 0)))) (tRet (tVar 1))
    tNext)
    (tRet (tIf (tTest (tOp (rI0 fun i j => .bl (decide (j ≤ i))) (tCall sp__law_lead [] E0 (tCons (tVar 0) (tCons (tOp (rI0 fun i j => .int (i - j)) (tC (.int 3)) (tVar 1)) tNil))) (tC (.int 1)))) (tOp (rI0 fun i j => .int (i - j)) (tC (.int 3)) (tVar 1)) (tC (.int 0)))))
theorem dv__law_result {P : Program} {w : World} {K : PySem.W.Frag} {mg : Str → Option Value} {base : Heap} {k : Nat} {f : Addr} {sp__law_lead : Sp} (m : Mo K mg) (c__law_lead : Cal P w K mg base k "_law_lead" ["race", "color"] sp__law_lead) :
    Dv P w K mg base (k + 1) ["race", "first"] "_law_result" (defScope s__law_result) f (defBody s__law_result) (t__law_result K sp__law_lead) := by
  intro cdv A outer s H E hr
  have sc := sc__law_result
  exact (pss_cons (ps_if (pt_cmpR op_ge (pe_cal c__law_lead (hr.mono (by omega)) rfl (pa_cons (pv 0) (pa_cons (pv 1) pa_nil))) pe_int (nomark _)) (pss_one (ps_ret (pv 1)))
    pss_nil)
    (pss_one (ps_ret (pe_ifExp (pt_cmpR op_ge (pe_cal c__law_lead (hr.mono (by omega)) rfl (pa_cons (pv 0) (pa_cons (pe_op op_sub pe_int (pv 1)) pa_nil))) pe_int (nomark _)) (pe_op op_sub pe_int (pv 1)) pe_int))))
abbrev s__law_words : Stmt := top 60
theorem sc__law_words : FnScope ["race", "color", "found", "other"] ["race", "color"] (defScope s__law_words) := ⟨rfl, rfl, rfl, by decide +kernel, rfl, by decide +kernel, by decide +kernel⟩
def t__law_words (K : PySem.W.Frag) (sp__law_total : Sp) : TS :=
  (tSeq (tPar 2 3 (tCons (tLst tNil) (tCons (tOp (rI0 fun i j => .int (i - j)) (tC (.int 3)) (tVar 1)) tNil)))
    (tSeq (tIfS (tTest (tOp (rI0 fun i j => .bl (decide (j < i))) (tOp (rIx K) (tVar 0) (tOp (rI0 fun i j => .int (i - j)) (tVar 3) (tC (.int 1)))) (tC (.int 0)))) (tDrop (tBM K "list" rAppend (tVar 2) (tCons (tC (.str "outside")) tNil)))
    tNext)
    (tSeq (tIfS (tAnd (tTest (tOp (rI0 fun i j => .bl (decide (j < i))) (tOp (rIx K) (tVar 0) (tC (.int 2))) (tC (.int 0)))) (tOr (tTest (tOp (rI0 fun i j => .bl (decide (j < i))) (tCall sp__law_total [] E0 (tCons (tVar 0) (tCons (tVar 1) tNil))) (tC (.int 1)))) (tTest (tOp (rEqA K) (tCall sp__law_total [] E0 (tCons (tVar 0) (tCons (tVar 3) tNil))) (tC (.int 1)))))) (tDrop (tBM K "list" rAppend (tVar 2) (tCons (tC (.str "shared")) tNil)))
    tNext)
    (tSeq (tIfS (tOr (tTest (tOp (rI0 fun i j => .bl (decide (j < i))) (tOp (rIx K) (tVar 0) (tOp (rPlus K) (tC (.int 2)) (tVar 3))) (tC (.int 1)))) (tAnd (tTest (tOp (rEqA K) (tOp (rIx K) (tVar 0) (tOp (rPlus K) (tC (.int 2)) (tVar 3))) (tC (.int 1)))) (tTest (tOp (rEqA K) (tCall sp__law_total [] E0 (tCons (tVar 0) (tCons (tVar 3) tNil))) (tC (.int 1)))))) (tDrop (tBM K "list" rAppend (tVar 2) (tCons (tC (.str "eye")) tNil)))
    tNext)
    (tRet (tVar 2))))))
theorem dv__law_words {P : Program} {w : World} {K : PySem.W.Frag} {mg : Str → Option Value} {base : Heap} {k : Nat} {f : Addr} {sp__law_total : Sp} (m : Mo K mg) (c__law_total : Cal P w K mg base k "_law_total" ["race", "color"] sp__law_total) :
    Dv P w K mg base (k + 1) ["race", "color", "found", "other"] "_law_words" (defScope s__law_words) f (defBody s__law_words) (t__law_words K sp__law_total) := by
  intro cdv A outer s H E hr
  have sc := sc__law_words
  exact (pss_cons (ps_par (i := 2) (j := 3) rfl sc.nd rfl rfl (by decide) rfl rfl (pa_cons (pe_lst pa_nil) (pa_cons (pe_op op_sub pe_int (pv 1)) pa_nil)) rfl)
    (pss_cons (ps_if (pt_cmpR op_gt (pe_ix ix_seq (pv 0) (pe_op op_sub (pv 3) pe_int) (fun _ _ => rfl)) pe_int (nomark _)) (pss_one (ps_expr (pe_bm PySem.F.plainAttrs_list PySem.F.slot_list_append PySem.F.type_list_append mt_append (pv 2) (pa_cons pe_str pa_nil))))
    pss_nil)
    (pss_cons (ps_if (PW.pt (pw_and (pt_cmpR op_gt (pe_ix ix_seq (pv 0) pe_int (fun _ _ => rfl)) pe_int (nomark _)) (pw_and1 (PW.pt (pw_or (pt_cmpR op_gt (pe_cal c__law_total (hr.mono (by omega)) rfl (pa_cons (pv 0) (pa_cons (pv 1) pa_nil))) pe_int (nomark _)) (pw_or1 (pt_cmpR (op_eqA hr.units) (pe_cal c__law_total (hr.mono (by omega)) rfl (pa_cons (pv 0) (pa_cons (pv 3) pa_nil))) pe_int (nomark _)))))))) (pss_one (ps_expr (pe_bm PySem.F.plainAttrs_list PySem.F.slot_list_append PySem.F.type_list_append mt_append (pv 2) (pa_cons pe_str pa_nil))))
    pss_nil)
    (pss_cons (ps_if (PW.pt (pw_or (pt_cmpR op_gt (pe_ix ix_seq (pv 0) (pe_op op_plus pe_int (pv 3)) (fun _ _ => rfl)) pe_int (nomark _)) (pw_or1 (PW.pt (pw_and (pt_cmpR (op_eqA hr.units) (pe_ix ix_seq (pv 0) (pe_op op_plus pe_int (pv 3)) (fun _ _ => rfl)) pe_int (nomark _)) (pw_and1 (pt_cmpR (op_eqA hr.units) (pe_cal c__law_total (hr.mono (by omega)) rfl (pa_cons (pv 0) (pa_cons (pv 3) pa_nil))) pe_int (nomark _)))))))) (pss_one (ps_expr (pe_bm PySem.F.plainAttrs_list PySem.F.slot_list_append PySem.F.type_list_append mt_append (pv 2) (pa_cons pe_str pa_nil))))
    pss_nil)
    (pss_one (ps_ret (pv 2)))))))
abbrev s__law_behind : Stmt := top 61
theorem sc__law_behind : FnScope ["race", "color", "word", "at", "after"] ["race", "color", "word"] (defScope s__law_behind) := ⟨rfl, rfl, rfl, by decide +kernel, rfl, by decide +kernel, by decide +kernel⟩
def t__law_behind (K : PySem.W.Frag) (sp__law_total : Sp) : TS :=
  (tSeq (tAsg (tDGet (tDisp [((tC (.str "outside")), (tOp (rI0 fun i j => .int (i - j)) (tC (.int 2)) (tVar 1))), ((tC (.str "shared")), (tC (.int 2))), ((tC (.str "eye")), (tOp (rI0 fun i j => .int (i - j)) (tC (.int 5)) (tVar 1)))]) (tVar 2)) (gName 3))
    (tSeq (tAsg (tOp (rPlus K) (tOp (rPlus K) (tSl (rSlSeq K) (tVar 0) tNoPart (tPart (tVar 3))) (tTup (tCons (tOp (rI0 fun i j => .int (i - j)) (tOp (rIx K) (tVar 0) (tVar 3)) (tC (.int 1))) tNil))) (tSl (rSlSeq K) (tVar 0) (tPart (tOp (rPlus K) (tVar 3) (tC (.int 1)))) tNoPart)) (gName 4))
    (tRet (tIf (tTest (tOp (rEqA K) (tCall sp__law_total [] E0 (tCons (tVar 4) (tCons (tOp (rI0 fun i j => .int (i - j)) (tC (.int 3)) (tVar 1)) tNil))) (tC (.int 0)))) (tC .non) (tVar 4)))))
theorem dv__law_behind {P : Program} {w : World} {K : PySem.W.Frag} {mg : Str → Option Value} {base : Heap} {k : Nat} {f : Addr} {sp__law_total : Sp} (m : Mo K mg) (c__law_total : Cal P w K mg base k "_law_total" ["race", "color"] sp__law_total) :
    Dv P w K mg base (k + 1) ["race", "color", "word", "at", "after"] "_law_behind" (defScope s__law_behind) f (defBody s__law_behind) (t__law_behind K sp__law_total) := by
  intro cdv A outer s H E hr
  have sc := sc__law_behind
  exact (pss_cons (ps_set (i := 3) sc.nd rfl (Or.inl rfl) (pe_dget (hu_of hr) (pe_disp (pps_cons pe_str (pe_op op_sub pe_int (pv 1)) (pps_cons pe_str pe_int (pps_cons pe_str (pe_op op_sub pe_int (pv 1)) pps_nil))) rfl rfl (by simp) (by decide)) (pv 2) (fun _ _ => rfl)))
    (pss_cons (ps_set (i := 4) sc.nd rfl (Or.inl rfl) (pe_op op_plus (pe_op op_plus (pe_slice sl_seq (pv 0) po_none (po_some (pv 3))) (pe_tup (pa_cons (pe_op op_sub (pe_ix ix_seq (pv 0) (pv 3) (fun _ _ => rfl)) pe_int) pa_nil))) (pe_slice sl_seq (pv 0) (po_some (pe_op op_plus (pv 3) pe_int)) po_none)))
    (pss_one (ps_ret (pe_ifExp (pt_cmpR (op_eqA hr.units) (pe_cal c__law_total (hr.mono (by omega)) rfl (pa_cons (pv 4) (pa_cons (pe_op op_sub pe_int (pv 1)) pa_nil))) pe_int (nomark _)) pe_non (pv 4))))))
abbrev s__law_value : Stmt := top 62
theorem sc__law_value : FnScope ["result", "color"] ["result", "color"] (defScope s__law_value) := ⟨rfl, rfl, rfl, by decide +kernel, rfl, by decide +kernel, by decide +kernel⟩
def t__law_value (K : PySem.W.Frag) : TS :=
  (tRet (tIf (tTest (tOp (rEqA K) (tVar 0) (tVar 1))) (tC (.int 2)) (tIf (tTest (tOp (rEqA K) (tVar 0) (tC (.int 0)))) (tC (.int 1)) (tC (.int 0)))))
theorem dv__law_value {P : Program} {w : World} {K : PySem.W.Frag} {mg : Str → Option Value} {base : Heap} {k : Nat} {f : Addr} (m : Mo K mg) :
    Dv P w K mg base (k + 1) ["result", "color"] "_law_value" (defScope s__law_value) f (defBody s__law_value) (t__law_value K) := by
  intro cdv A outer s H E hr
  have sc := sc__law_value
  exact (pss_one (ps_ret (pe_ifExp (pt_cmpR (op_eqA hr.units) (pv 0) (pv 1) (nomark _)) pe_int (pe_ifExp (pt_cmpR (op_eqA hr.units) (pv 0) pe_int (nomark _)) pe_int pe_int))))
abbrev s__law_best_words : Stmt := top 63
theorem sc__law_best_words : FnScope ["race", "color", "values", "word", "after", "best", "value"] ["race", "color"] (defScope s__law_best_words) := ⟨rfl, rfl, rfl, by decide +kernel, rfl, by decide +kernel, by decide +kernel⟩
def t__law_best_words (K : PySem.W.Frag) (sp__law_words : Sp) (sp__law_behind : Sp) (sp__law_value : Sp) (sp__law_result : Sp) : TS :=
  (tSeq (tAsg (tLst tNil) (gName 2))
    (tSeq (tFor (iSeq K (tCall sp__law_words [] E0 (tCons (tVar 0) (tCons (tVar 1) tNil)))) (gName 3) (tSeq (tAsg (tCall sp__law_behind [] E0 (tCons (tVar 0) (tCons (tVar 1) (tCons (tVar 3) tNil)))) (gName 4))
    (tDrop (tBM K "list" rAppend (tVar 2) (tCons (tTup (tCons (tVar 3) (tCons (tIf (tB (tIsN (tVar 4))) (tC (.int 2)) (tCall sp__law_value [] E0 (tCons (tCall sp__law_result [] E0 (tCons (tVar 4) (tCons (tOp (rI0 fun i j => .int (i - j)) (tC (.int 3)) (tVar 1)) tNil))) (tCons (tVar 1) tNil)))) tNil))) tNil)))))
    (tSeq (tDrop (tBM K "list" rAppend (tVar 2) (tCons (tTup (tCons (tC .non) (tCons (tCB (rMinA K) (tCons (tC (.int 1)) (tCons (tCall sp__law_value [] E0 (tCons (tCall sp__law_result [] E0 (tCons (tVar 0) (tCons (tOp (rI0 fun i j => .int (i - j)) (tC (.int 3)) (tVar 1)) tNil))) (tCons (tVar 1) tNil))) tNil))) tNil))) tNil)))
    (tSeq (tAsg (tCB (rMaxA K) (tCons (tLc (iSeq K (tVar 2)) (gTup K 2 (gCons (gName 3) (gCons (gName 6) gNil))) tYes (tVar 6) [3, 6]) tNil)) (gName 5))
    (tRet (tLc (iSeq K (tVar 2)) (gTup K 2 (gCons (gName 3) (gCons (gName 6) gNil))) (tTest (tOp (rEqA K) (tVar 6) (tVar 5))) (tVar 3) [3, 6]))))))
theorem dv__law_best_words {P : Program} {w : World} {K : PySem.W.Frag} {mg : Str → Option Value} {base : Heap} {k : Nat} {f : Addr} {sp__law_words : Sp} {sp__law_behind : Sp} {sp__law_value : Sp} {sp__law_result : Sp} (m : Mo K mg) (c__law_words : Cal P w K mg base k "_law_words" ["race", "color"] sp__law_words) (c__law_behind : Cal P w K mg base k "_law_behind" ["race", "color", "word"] sp__law_behind) (c__law_value : Cal P w K mg base k "_law_value" ["result", "color"] sp__law_value) (c__law_result : Cal P w K mg base k "_law_result" ["race", "first"] sp__law_result) :
    Dv P w K mg base (k + 1) ["race", "color", "values", "word", "after", "best", "value"] "_law_best_words" (defScope s__law_best_words) f (defBody s__law_best_words) (t__law_best_words K sp__law_words sp__law_behind sp__law_value sp__law_result) := by
  intro cdv A outer s H E hr
  have sc := sc__law_best_words
  exact (pss_cons (ps_set (i := 2) sc.nd rfl (Or.inl rfl) (pe_lst pa_nil))
    (pss_cons (ps_for PassesOwn.never rfl (pi_seq (pe_cal c__law_words (hr.mono (by omega)) rfl (pa_cons (pv 0) (pa_cons (pv 1) pa_nil)))) (pg_name (i := 3) sc.nd rfl (.inl rfl)) (pss_cons (ps_set (i := 4) sc.nd rfl (Or.inl rfl) (pe_cal c__law_behind (hr.mono (by omega)) rfl (pa_cons (pv 0) (pa_cons (pv 1) (pa_cons (pv 3) pa_nil)))))
    (pss_one (ps_expr (pe_bm PySem.F.plainAttrs_list PySem.F.slot_list_append PySem.F.type_list_append mt_append (pv 2) (pa_cons (pe_tup (pa_cons (pv 3) (pa_cons (pe_ifExp (pt_cmp (pc_isN (pv 4))) pe_int (pe_cal c__law_value (hr.mono (by omega)) rfl (pa_cons (pe_cal c__law_result (hr.mono (by omega)) rfl (pa_cons (pv 4) (pa_cons (pe_op op_sub pe_int (pv 1)) pa_nil))) (pa_cons (pv 1) pa_nil)))) pa_nil))) pa_nil))))))
    (pss_cons (ps_expr (pe_bm PySem.F.plainAttrs_list PySem.F.slot_list_append PySem.F.type_list_append mt_append (pv 2) (pa_cons (pe_tup (pa_cons pe_non (pa_cons (pe_callB (call_minA rfl) rfl m.n_min boot_min (pa_cons pe_int (pa_cons (pe_cal c__law_value (hr.mono (by omega)) rfl (pa_cons (pe_cal c__law_result (hr.mono (by omega)) rfl (pa_cons (pv 0) (pa_cons (pe_op op_sub pe_int (pv 1)) pa_nil))) (pa_cons (pv 1) pa_nil))) pa_nil))) pa_nil))) pa_nil)))
    (pss_cons (ps_set (i := 5) sc.nd rfl (Or.inr rfl) (pe_callB (call_maxA rfl) rfl m.n_max boot_max (pa_cons (pe_lc (own := [("word", 3), ("value", 6)]) rfl sc.nd (pi_seq (pv 2)) (blkOk_by (N := ["race", "color", "values", "word", "after", "best", "value"]) (sc := defScope s__law_best_words) (by decide +kernel)) (fun _ _ _ _ _ => (pg_tup rfl (pgs_cons (pg_name (i := 3) sc.nd rfl (.inl rfl)) (pgs_cons (pg_name (i := 6) sc.nd rfl (.inl rfl)) pgs_nil)))) (fun _ _ _ _ _ => pts_nil) (fun _ _ _ _ _ => (pv 6))) pa_nil)))
    (pss_one (ps_ret (pe_lc (own := [("word", 3), ("value", 6)]) rfl sc.nd (pi_seq (pv 2)) (blkOk_by (N := ["race", "color", "values", "word", "after", "best", "value"]) (sc := defScope s__law_best_words) (by decide +kernel)) (fun _ _ _ _ _ => (pg_tup rfl (pgs_cons (pg_name (i := 3) sc.nd rfl (.inl rfl)) (pgs_cons (pg_name (i := 6) sc.nd rfl (.inl rfl)) pgs_nil)))) (fun _ _ _ _ _ => (pts_one (pt_cmpR (op_eqA hr.units) (pv 6) (pv 5) (nomark _)))) (fun _ _ _ _ _ => (pv 3)))))))))
abbrev s__law_race : Stmt := top 64
theorem sc__law_race : FnScope ["race", "by_name"] ["race", "by_name"] (defScope s__law_race) := ⟨rfl, rfl, rfl, by decide +kernel, rfl, by decide +kernel, by decide +kernel⟩
def t__law_race (K : PySem.W.Frag) (sp_Race__init__ : Sp) : TS :=
  (tSeq (tIfS (tB (tVar 1)) (tRet (tMakeK (He.ga K "Race") 0 (List.length (α := Str) ["white_eye", "black_eye", "shared", "white", "black"]) sp_Race__init__ (fun vs zs => perm [0, 5, 4, 3, 2, 1] (vs ++ zs)) E0 tNil (tCons (tOp (rIx K) (tVar 0) (tC (.int 4))) (tCons (tOp (rIx K) (tVar 0) (tC (.int 3))) (tCons (tOp (rIx K) (tVar 0) (tC (.int 2))) (tCons (tOp (rIx K) (tVar 0) (tC (.int 1))) (tCons (tOp (rIx K) (tVar 0) (tC (.int 0))) tNil)))))))
    tNext)
    (tRet (tMake (He.ga K "Race") sp_Race__init__ [] E0 (tCons (tOp (rIx K) (tVar 0) (tC (.int 0))) (tCons (tOp (rIx K) (tVar 0) (tC (.int 1))) (tCons (tOp (rIx K) (tVar 0) (tC (.int 2))) (tCons (tOp (rIx K) (tVar 0) (tC (.int 3))) (tCons (tOp (rIx K) (tVar 0) (tC (.int 4))) tNil))))))))
theorem dv__law_race {P : Program} {w : World} {K : PySem.W.Frag} {mg : Str → Option Value} {base : Heap} {k : Nat} {f : Addr} {sp_Race__init__ : Sp} (m : Mo K mg) (cm_Race : CalM P w K mg base k "Race" (He.ga K "Race") sp_Race__init__) (cmn_Race_0_5_4_3_2_1 : CalMN P w K mg base k "Race" (He.ga K "Race") ["white_eye", "black_eye", "shared", "white", "black"] [0, 5, 4, 3, 2, 1] sp_Race__init__) :
    Dv P w K mg base (k + 1) ["race", "by_name"] "_law_race" (defScope s__law_race) f (defBody s__law_race) (t__law_race K sp_Race__init__) := by
  intro cdv A outer s H E hr
  have sc := sc__law_race
  exact (pss_cons (ps_if (pt_val (pv 1)) (pss_one (ps_ret (pe_calMN cmn_Race_0_5_4_3_2_1 hr rfl (pk_cons (pe_ix ix_seq (pv 0) pe_int (fun _ _ => rfl)) (pk_cons (pe_ix ix_seq (pv 0) pe_int (fun _ _ => rfl)) (pk_cons (pe_ix ix_seq (pv 0) pe_int (fun _ _ => rfl)) (pk_cons (pe_ix ix_seq (pv 0) pe_int (fun _ _ => rfl)) (pk_cons (pe_ix ix_seq (pv 0) pe_int (fun _ _ => rfl)) pk_nil))))))))
    pss_nil)
    (pss_one (ps_ret (pe_calM cm_Race hr rfl (pa_cons (pe_ix ix_seq (pv 0) pe_int (fun _ _ => rfl)) (pa_cons (pe_ix ix_seq (pv 0) pe_int (fun _ _ => rfl)) (pa_cons (pe_ix ix_seq (pv 0) pe_int (fun _ _ => rfl)) (pa_cons (pe_ix ix_seq (pv 0) pe_int (fun _ _ => rfl)) (pa_cons (pe_ix ix_seq (pv 0) pe_int (fun _ _ => rfl)) pa_nil)))))))))
abbrev s__law_five : Stmt := top 65
theorem sc__law_five : FnScope ["told"] ["told"] (defScope s__law_five) := ⟨rfl, rfl, rfl, by decide +kernel, rfl, by decide +kernel, by decide +kernel⟩
def t__law_five (K : PySem.W.Frag) : TS :=
  (tRet (tLst (tCons (tFld K (tVar 0) "black") (tCons (tFld K (tVar 0) "white") (tCons (tFld K (tVar 0) "shared") (tCons (tFld K (tVar 0) "black_eye") (tCons (tFld K (tVar 0) "white_eye") tNil)))))))
theorem dv__law_five {P : Program} {w : World} {K : PySem.W.Frag} {mg : Str → Option Value} {base : Heap} {k : Nat} {f : Addr} (m : Mo K mg) :
    Dv P w K mg base (k + 1) ["told"] "_law_five" (defScope s__law_five) f (defBody s__law_five) (t__law_five K) := by
  intro cdv A outer s H E hr
  have sc := sc__law_five
  exact (pss_one (ps_ret (pe_lst (pa_cons (pe_fld (pv 0) rfl) (pa_cons (pe_fld (pv 0) rfl) (pa_cons (pe_fld (pv 0) rfl) (pa_cons (pe_fld (pv 0) rfl) (pa_cons (pe_fld (pv 0) rfl) pa_nil))))))))
abbrev s__law_far : Stmt := top 66
theorem sc__law_far : FnScope ["box"] ["box"] (defScope s__law_far) := ⟨rfl, rfl, rfl, by decide +kernel, rfl, by decide +kernel, by decide +kernel⟩
def t__law_far (K : PySem.W.Frag) (sp__law_take : Sp) : TS :=
  (tRet (tOp (rIx K) (tLst (tCons (tCall sp__law_take [] E0 (tCons (tVar 0) (tCons (tC (.int 4)) tNil))) (tCons (tOp (rPlus K) (tOp (rI CMul fun i j => .int (i * j)) (tOp (rI CPow fun i j => .int (i ^ j.toNat)) (tC (.int 10)) (tC (.int 19))) (tCall sp__law_take [] E0 (tCons (tVar 0) (tCons (tC (.int 9)) tNil)))) (tCall sp__law_take [] E0 (tCons (tVar 0) (tCons (tOp (rI CPow fun i j => .int (i ^ j.toNat)) (tC (.int 10)) (tC (.int 6))) tNil)))) (tCons (tOp (rPlus K) (tOp (rI CPow fun i j => .int (i ^ j.toNat)) (tC (.int 10)) (tC (.int 9))) (tCall sp__law_take [] E0 (tCons (tVar 0) (tCons (tC (.int 1000)) tNil)))) tNil)))) (tCall sp__law_take [] E0 (tCons (tVar 0) (tCons (tC (.int 3)) tNil)))))
theorem dv__law_far {P : Program} {w : World} {K : PySem.W.Frag} {mg : Str → Option Value} {base : Heap} {k : Nat} {f : Addr} {sp__law_take : Sp} (m : Mo K mg) (c__law_take : Cal P w K mg base k "_law_take" ["box", "many"] sp__law_take) :
    Dv P w K mg base (k + 1) ["box"] "_law_far" (defScope s__law_far) f (defBody s__law_far) (t__law_far K sp__law_take) := by
  intro cdv A outer s H E hr
  have sc := sc__law_far
  exact (pss_one (ps_ret (pe_ix ix_seq (pe_lst (pa_cons (pe_cal c__law_take (hr.mono (by omega)) rfl (pa_cons (pv 0) (pa_cons pe_int pa_nil))) (pa_cons (pe_op op_plus (pe_op op_mul (pe_op op_pow pe_int pe_int) (pe_cal c__law_take (hr.mono (by omega)) rfl (pa_cons (pv 0) (pa_cons pe_int pa_nil)))) (pe_cal c__law_take (hr.mono (by omega)) rfl (pa_cons (pv 0) (pa_cons (pe_op op_pow pe_int pe_int) pa_nil)))) (pa_cons (pe_op op_plus (pe_op op_pow pe_int pe_int) (pe_cal c__law_take (hr.mono (by omega)) rfl (pa_cons (pv 0) (pa_cons pe_int pa_nil)))) pa_nil)))) (pe_cal c__law_take (hr.mono (by omega)) rfl (pa_cons (pv 0) (pa_cons pe_int pa_nil))) (fun _ _ => rfl))))
abbrev s__law_near_race : Stmt := top 67
theorem sc__law_near_race : FnScope ["box", "far", "turn", "race", "color", "more", "made", "k"] ["box", "far"] (defScope s__law_near_race) := ⟨rfl, rfl, rfl, by decide +kernel, rfl, by decide +kernel, by decide +kernel⟩
def t__law_near_race (K : PySem.W.Frag) (sp__law_far : Sp) (sp__law_take : Sp) (sp__law_lead : Sp) (sp__law_total : Sp) : TS :=
  (tSeq (tFor (iRng1 (tCons (tC (.int 6)) tNil)) (gName 2) (tSeq (tAsg (tOp (rPlus K) (tCB (rTupO K) (tCons (tLc (iRng1 (tCons (tC (.int 3)) tNil)) (gName 7) tYes (tIf (tB (tVar 1)) (tCall sp__law_far [] E0 (tCons (tVar 0) tNil)) (tCall sp__law_take [] E0 (tCons (tVar 0) (tCons (tC (.int 4)) tNil)))) [7]) tNil)) (tCB (rTupO K) (tCons (tLc (iRng1 (tCons (tC (.int 2)) tNil)) (gName 7) tYes (tOp (rIx K) (tLst (tCons (tC (.int 0)) (tCons (tC (.int 0)) (tCons (tC (.int 1)) (tCons (tC (.int 2)) (tCons (tIf (tB (tVar 1)) (tCall sp__law_far [] E0 (tCons (tVar 0) tNil)) (tC (.int 3))) tNil)))))) (tCall sp__law_take [] E0 (tCons (tVar 0) (tCons (tC (.int 5)) tNil)))) [7]) tNil))) (gName 3))
    (tSeq (tAsg (tOp (rPlus K) (tC (.int 1)) (tCall sp__law_take [] E0 (tCons (tVar 0) (tCons (tC (.int 2)) tNil)))) (gName 4))
    (tSeq (tAsg (tOp (rI0 fun i j => .int (i - j)) (tCall sp__law_lead [] E0 (tCons (tVar 3) (tCons (tVar 4) tNil))) (tOp (rIx K) (tLst (tCons (tUn (rU fun i => .int (-i)) (tC (.int 2))) (tCons (tUn (rU fun i => .int (-i)) (tC (.int 1))) (tCons (tC (.int 0)) (tCons (tC (.int 0)) (tCons (tC (.int 1)) (tCons (tC (.int 2)) tNil))))))) (tCall sp__law_take [] E0 (tCons (tVar 0) (tCons (tC (.int 6)) tNil))))) (gName 5))
    (tSeq (tAsg (tIf (tTest (tOp (rI0 fun i j => .bl (decide (j < i))) (tVar 5) (tC (.int 0)))) (tOp (rPlus K) (tOp (rPlus K) (tSl (rSlSeq K) (tVar 3) tNoPart (tPart (tOp (rI0 fun i j => .int (i - j)) (tC (.int 2)) (tVar 4)))) (tTup (tCons (tOp (rPlus K) (tOp (rIx K) (tVar 3) (tOp (rI0 fun i j => .int (i - j)) (tC (.int 2)) (tVar 4))) (tVar 5)) tNil))) (tSl (rSlSeq K) (tVar 3) (tPart (tOp (rI0 fun i j => .int (i - j)) (tC (.int 3)) (tVar 4))) tNoPart)) (tOp (rPlus K) (tOp (rPlus K) (tSl (rSlSeq K) (tVar 3) tNoPart (tPart (tOp (rI0 fun i j => .int (i - j)) (tVar 4) (tC (.int 1))))) (tTup (tCons (tOp (rI0 fun i j => .int (i - j)) (tOp (rIx K) (tVar 3) (tOp (rI0 fun i j => .int (i - j)) (tVar 4) (tC (.int 1)))) (tVar 5)) tNil))) (tSl (rSlSeq K) (tVar 3) (tPart (tVar 4)) tNoPart))) (gName 6))
    (tIfS (tAnd (tTest (tOp (rI0 fun i j => .bl (decide (j ≤ i))) (tCB (rMinB K) (tCons (tVar 6) tNil)) (tC (.int 0)))) (tAnd (tTest (tOp (rI0 fun i j => .bl (decide (i < j))) (tCB (rMaxB K) (tCons (tVar 6) tNil)) (tOp (rI CMul fun i j => .int (i * j)) (tC (.int 9)) (tOp (rI CPow fun i j => .int (i ^ j.toNat)) (tC (.int 10)) (tC (.int 19)))))) (tAnd (tTest (tOp (rI0 fun i j => .bl (decide (j < i))) (tCall sp__law_total [] E0 (tCons (tVar 6) (tCons (tC (.int 1)) tNil))) (tC (.int 0)))) (tTest (tOp (rI0 fun i j => .bl (decide (j < i))) (tCall sp__law_total [] E0 (tCons (tVar 6) (tCons (tC (.int 2)) tNil))) (tC (.int 0))))))) (tRet (tVar 6))
    tNext))))))
    (tRet (tTup (tCons (tC (.int 1)) (tCons (tC (.int 1)) (tCons (tCall sp__law_take [] E0 (tCons (tVar 0) (tCons (tC (.int 3)) tNil))) (tCons (tCall sp__law_take [] E0 (tCons (tVar 0) (tCons (tC (.int 3)) tNil))) (tCons (tC (.int 0)) tNil))))))))
theorem dv__law_near_race {P : Program} {w : World} {K : PySem.W.Frag} {mg : Str → Option Value} {base : Heap} {k : Nat} {f : Addr} {sp__law_far : Sp} {sp__law_take : Sp} {sp__law_lead : Sp} {sp__law_total : Sp} (m : Mo K mg) (c__law_far : Cal P w K mg base k "_law_far" ["box"] sp__law_far) (c__law_take : Cal P w K mg base k "_law_take" ["box", "many"] sp__law_take) (c__law_lead : Cal P w K mg base k "_law_lead" ["race", "color"] sp__law_lead) (c__law_total : Cal P w K mg base k "_law_total" ["race", "color"] sp__law_total) :
    Dv P w K mg base (k + 1) ["box", "far", "turn", "race", "color", "more", "made", "k"] "_law_near_race" (defScope s__law_near_race) f (defBody s__law_near_race) (t__law_near_race K sp__law_far sp__law_take sp__law_lead sp__law_total) := by
  intro cdv A outer s H E hr
  have sc := sc__law_near_race
  exact (pss_cons (ps_for PassesOwn.never rfl (pi_range1 rfl m.n_range (pa_cons pe_int pa_nil)) (pg_name (i := 2) sc.nd rfl (.inl rfl)) (pss_cons (ps_set (i := 3) sc.nd rfl (Or.inl rfl) (pe_op op_plus (pe_callTy call_tuple_of rfl m.n_tuple boot_tuple (pa_cons (pe_lc (own := [("k", 7)]) rfl sc.nd (pi_range1 rfl m.n_range (pa_cons pe_int pa_nil)) (blkOk_by (N := ["box", "far", "turn", "race", "color", "more", "made", "k"]) (sc := defScope s__law_near_race) (by decide +kernel)) (fun _ _ _ _ _ => (pg_name (i := 7) sc.nd rfl (.inl rfl))) (fun _ _ _ _ _ => pts_nil) (fun _ _ _ _ _ => (pe_ifExp (pt_val (pv 1)) (pe_cal c__law_far (hr.mono (by omega)) rfl (pa_cons (pv 0) pa_nil)) (pe_cal c__law_take (hr.mono (by omega)) rfl (pa_cons (pv 0) (pa_cons pe_int pa_nil)))))) pa_nil)) (pe_callTy call_tuple_of rfl m.n_tuple boot_tuple (pa_cons (pe_lc (own := [("k", 7)]) rfl sc.nd (pi_range1 rfl m.n_range (pa_cons pe_int pa_nil)) (blkOk_by (N := ["box", "far", "turn", "race", "color", "more", "made", "k"]) (sc := defScope s__law_near_race) (by decide +kernel)) (fun _ _ _ _ _ => (pg_name (i := 7) sc.nd rfl (.inl rfl))) (fun _ _ _ _ _ => pts_nil) (fun _ _ _ _ _ => (pe_ix ix_seq (pe_lst (pa_cons pe_int (pa_cons pe_int (pa_cons pe_int (pa_cons pe_int (pa_cons (pe_ifExp (pt_val (pv 1)) (pe_cal c__law_far (hr.mono (by omega)) rfl (pa_cons (pv 0) pa_nil)) pe_int) pa_nil)))))) (pe_cal c__law_take (hr.mono (by omega)) rfl (pa_cons (pv 0) (pa_cons pe_int pa_nil))) (fun _ _ => rfl)))) pa_nil))))
    (pss_cons (ps_set (i := 4) sc.nd rfl (Or.inl rfl) (pe_op op_plus pe_int (pe_cal c__law_take (hr.mono (by omega)) rfl (pa_cons (pv 0) (pa_cons pe_int pa_nil)))))
    (pss_cons (ps_set (i := 5) sc.nd rfl (Or.inl rfl) (pe_op op_sub (pe_cal c__law_lead (hr.mono (by omega)) rfl (pa_cons (pv 3) (pa_cons (pv 4) pa_nil))) (pe_ix ix_seq (pe_lst (pa_cons (pe_un un_neg pe_int) (pa_cons (pe_un un_neg pe_int) (pa_cons pe_int (pa_cons pe_int (pa_cons pe_int (pa_cons pe_int pa_nil))))))) (pe_cal c__law_take (hr.mono (by omega)) rfl (pa_cons (pv 0) (pa_cons pe_int pa_nil))) (fun _ _ => rfl))))
    (pss_cons (ps_set (i := 6) sc.nd rfl (Or.inl rfl) (pe_ifExp (pt_cmpR op_gt (pv 5) pe_int (nomark _)) (pe_op op_plus (pe_op op_plus (pe_slice sl_seq (pv 3) po_none (po_some (pe_op op_sub pe_int (pv 4)))) (pe_tup (pa_cons (pe_op op_plus (pe_ix ix_seq (pv 3) (pe_op op_sub pe_int (pv 4)) (fun _ _ => rfl)) (pv 5)) pa_nil))) (pe_slice sl_seq (pv 3) (po_some (pe_op op_sub pe_int (pv 4))) po_none)) (pe_op op_plus (pe_op op_plus (pe_slice sl_seq (pv 3) po_none (po_some (pe_op op_sub (pv 4) pe_int))) (pe_tup (pa_cons (pe_op op_sub (pe_ix ix_seq (pv 3) (pe_op op_sub (pv 4) pe_int) (fun _ _ => rfl)) (pv 5)) pa_nil))) (pe_slice sl_seq (pv 3) (po_some (pv 4)) po_none))))
    (pss_one (ps_if (PW.pt (pw_and (pt_cmpR op_ge (pe_callB (call_minB rfl hr.units) rfl m.n_min boot_min (pa_cons (pv 6) pa_nil)) pe_int (nomark _)) (pw_and (pt_cmpR op_lt (pe_callB (call_maxB rfl hr.units) rfl m.n_max boot_max (pa_cons (pv 6) pa_nil)) (pe_op op_mul pe_int (pe_op op_pow pe_int pe_int)) (nomark _)) (pw_and (pt_cmpR op_gt (pe_cal c__law_total (hr.mono (by omega)) rfl (pa_cons (pv 6) (pa_cons pe_int pa_nil))) pe_int (nomark _)) (pw_and1 (pt_cmpR op_gt (pe_cal c__law_total (hr.mono (by omega)) rfl (pa_cons (pv 6) (pa_cons pe_int pa_nil))) pe_int (nomark _))))))) (pss_one (ps_ret (pv 6)))
    pss_nil)))))))
    (pss_one (ps_ret (pe_tup (pa_cons pe_int (pa_cons pe_int (pa_cons (pe_cal c__law_take (hr.mono (by omega)) rfl (pa_cons (pv 0) (pa_cons pe_int pa_nil))) (pa_cons (pe_cal c__law_take (hr.mono (by omega)) rfl (pa_cons (pv 0) (pa_cons pe_int pa_nil))) (pa_cons pe_int pa_nil)))))))))
abbrev s__law_counts_right : Stmt := top 68
theorem sc__law_counts_right : FnScope ["race", "own", "by_name", "color", "told", "words", "word", "after", "due"] ["race", "own", "by_name"] (defScope s__law_counts_right) := ⟨rfl, rfl, rfl, by decide +kernel, rfl, by decide +kernel, by decide +kernel⟩
def t__law_counts_right (K : PySem.W.Frag) (sp_race_liberties : Sp) (sp_race_need : Sp) (sp_race_lead : Sp) (sp_race_result : Sp) (sp__law_is : Sp) (sp__law_total : Sp) (sp__law_need : Sp) (sp__law_lead : Sp) (sp__law_result : Sp) (sp_race_moves : Sp) (sp__law_words : Sp) (sp_race_after : Sp) (sp__law_behind : Sp) (sp__law_five : Sp) : TS :=
  (tSeq (tFor (iSeq K (tTup (tCons (tC (.int 1)) (tCons (tC (.int 2)) tNil)))) (gName 3) (tSeq (tAsg (tLst (tCons (tCall sp_race_liberties [] E0 (tCons (tVar 1) (tCons (tVar 3) tNil))) (tCons (tCallN 0 (List.length (α := Str) ["color", "race"]) sp_race_need (fun vs zs => perm [1, 0] (vs ++ zs)) E0 tNil (tCons (tVar 3) (tCons (tVar 1) tNil))) (tCons (tCall sp_race_lead [] E0 (tCons (tVar 1) (tCons (tVar 3) tNil))) (tCons (tCallN 0 (List.length (α := Str) ["first", "race"]) sp_race_result (fun vs zs => perm [1, 0] (vs ++ zs)) E0 tNil (tCons (tVar 3) (tCons (tVar 1) tNil))) tNil))))) (gName 4))
    (tSeq (tIfS (tB (tVar 2)) (tAsg (tLst (tCons (tCallN 0 (List.length (α := Str) ["color", "race"]) sp_race_liberties (fun vs zs => perm [1, 0] (vs ++ zs)) E0 tNil (tCons (tVar 3) (tCons (tVar 1) tNil))) (tCons (tCall sp_race_need [] E0 (tCons (tVar 1) (tCons (tVar 3) tNil))) (tCons (tCallN 0 (List.length (α := Str) ["color", "race"]) sp_race_lead (fun vs zs => perm [1, 0] (vs ++ zs)) E0 tNil (tCons (tVar 3) (tCons (tVar 1) tNil))) (tCons (tCall sp_race_result [] E0 (tCons (tVar 1) (tCons (tVar 3) tNil))) tNil))))) (gName 4))
    tNext)
    (tSeq (tIfS (tNot (tB (tCall sp__law_is [] E0 (tCons (tVar 4) (tCons (tLst (tCons (tCall sp__law_total [] E0 (tCons (tVar 0) (tCons (tVar 3) tNil))) (tCons (tCall sp__law_need [] E0 (tCons (tVar 0) (tCons (tVar 3) tNil))) (tCons (tCall sp__law_lead [] E0 (tCons (tVar 0) (tCons (tVar 3) tNil))) (tCons (tCall sp__law_result [] E0 (tCons (tVar 0) (tCons (tVar 3) tNil))) tNil))))) tNil))))) (tRet (tC (.bl false)))
    tNext)
    (tSeq (tAsg (tIf (tB (tVar 2)) (tCall sp_race_moves [] E0 (tCons (tVar 1) (tCons (tVar 3) tNil))) (tCallN 0 (List.length (α := Str) ["color", "race"]) sp_race_moves (fun vs zs => perm [1, 0] (vs ++ zs)) E0 tNil (tCons (tVar 3) (tCons (tVar 1) tNil)))) (gName 5))
    (tSeq (tIfS (tNot (tB (tCall sp__law_is [] E0 (tCons (tVar 5) (tCons (tCall sp__law_words [] E0 (tCons (tVar 0) (tCons (tVar 3) tNil))) tNil))))) (tRet (tC (.bl false)))
    tNext)
    (tSeq (tDrop (tBM K "list" rAppend (tVar 5) (tCons (tC (.str "more")) tNil)))
    (tFor (iSeq K (tCall sp__law_words [] E0 (tCons (tVar 0) (tCons (tVar 3) tNil)))) (gName 6) (tSeq (tPar 7 8 (tCons (tIf (tB (tVar 2)) (tCall sp_race_after [] E0 (tCons (tVar 1) (tCons (tVar 3) (tCons (tVar 6) tNil)))) (tCallN 0 (List.length (α := Str) ["move", "color", "race"]) sp_race_after (fun vs zs => perm [2, 1, 0] (vs ++ zs)) E0 tNil (tCons (tVar 6) (tCons (tVar 3) (tCons (tVar 1) tNil))))) (tCons (tCall sp__law_behind [] E0 (tCons (tVar 0) (tCons (tVar 3) (tCons (tVar 6) tNil)))) tNil)))
    (tIfS (tOr (tAnd (tB (tIsN (tVar 8))) (tB (tNotN (tVar 7)))) (tAnd (tB (tNotN (tVar 8))) (tOr (tNot (tB (tCB (rIsi K) (tCons (tVar 7) (tCons (tC (.ref (He.ga K "Race"))) tNil))))) (tNot (tB (tCall sp__law_is [] E0 (tCons (tCall sp__law_five [] E0 (tCons (tVar 7) tNil)) (tCons (tCB (rListO K) (tCons (tVar 8) tNil)) tNil)))))))) (tRet (tC (.bl false)))
    tNext))))))))))
    (tRet (tC (.bl true))))
theorem dv__law_counts_right {P : Program} {w : World} {K : PySem.W.Frag} {mg : Str → Option Value} {base : Heap} {k : Nat} {f : Addr} {sp_race_liberties : Sp} {sp_race_need : Sp} {sp_race_lead : Sp} {sp_race_result : Sp} {sp__law_is : Sp} {sp__law_total : Sp} {sp__law_need : Sp} {sp__law_lead : Sp} {sp__law_result : Sp} {sp_race_moves : Sp} {sp__law_words : Sp} {sp_race_after : Sp} {sp__law_behind : Sp} {sp__law_five : Sp} (m : Mo K mg) (c_race_liberties : Cal P w K mg base k "race_liberties" ["race", "color"] sp_race_liberties) (c_race_lead : Cal P w K mg base k "race_lead" ["race", "color"] sp_race_lead) (c_race_need : Cal P w K mg base k "race_need" ["race", "color"] sp_race_need) (c_race_result : Cal P w K mg base k "race_result" ["race", "first"] sp_race_result) (c__law_is : Cal P w K mg base k "_law_is" ["given", "due"] sp__law_is) (c__law_total : Cal P w K mg base k "_law_total" ["race", "color"] sp__law_total) (c__law_need : Cal P w K mg base k "_law_need" ["race", "color"] sp__law_need) (c__law_lead : Cal P w K mg base k "_law_lead" ["race", "color"] sp__law_lead) (c__law_result : Cal P w K mg base k "_law_result" ["race", "first"] sp__law_result) (c_race_moves : Cal P w K mg base k "race_moves" ["race", "color"] sp_race_moves) (c__law_words : Cal P w K mg base k "_law_words" ["race", "color"] sp__law_words) (c_race_after : Cal P w K mg base k "race_after" ["race", "color", "move"] sp_race_after) (c__law_behind : Cal P w K mg base k "_law_behind" ["race", "color", "word"] sp__law_behind) (c__law_five : Cal P w K mg base k "_law_five" ["told"] sp__law_five) (cn_race_need_1_0 : CalN P w K mg base k "race_need" 0 ["color", "race"] [1, 0] sp_race_need) (cn_race_result_1_0 : CalN P w K mg base k "race_result" 0 ["first", "race"] [1, 0] sp_race_result) (cn_race_liberties_1_0 : CalN P w K mg base k "race_liberties" 0 ["color", "race"] [1, 0] sp_race_liberties) (cn_race_lead_1_0 : CalN P w K mg base k "race_lead" 0 ["color", "race"] [1, 0] sp_race_lead) (cn_race_moves_1_0 : CalN P w K mg base k "race_moves" 0 ["color", "race"] [1, 0] sp_race_moves) (cn_race_after_2_1_0 : CalN P w K mg base k "race_after" 0 ["move", "color", "race"] [2, 1, 0] sp_race_after) :
    Dv P w K mg base (k + 1) ["race", "own", "by_name", "color", "told", "words", "word", "after", "due"] "_law_counts_right" (defScope s__law_counts_right) f (defBody s__law_counts_right) (t__law_counts_right K sp_race_liberties sp_race_need sp_race_lead sp_race_result sp__law_is sp__law_total sp__law_need sp__law_lead sp__law_result sp_race_moves sp__law_words sp_race_after sp__law_behind sp__law_five) := by
  intro cdv A outer s H E hr
  have sc := sc__law_counts_right
  exact (pss_cons (ps_for PassesOwn.never rfl (pi_seq (pe_tup (pa_cons pe_int (pa_cons pe_int pa_nil)))) (pg_name (i := 3) sc.nd rfl (.inl rfl)) (pss_cons (ps_set (i := 4) sc.nd rfl (Or.inl rfl) (pe_lst (pa_cons (pe_cal c_race_liberties (hr.mono (by omega)) rfl (pa_cons (pv 1) (pa_cons (pv 3) pa_nil))) (pa_cons (pe_calN0 cn_race_need_1_0 (hr.mono (by omega)) rfl (pk_cons (pv 3) (pk_cons (pv 1) pk_nil))) (pa_cons (pe_cal c_race_lead (hr.mono (by omega)) rfl (pa_cons (pv 1) (pa_cons (pv 3) pa_nil))) (pa_cons (pe_calN0 cn_race_result_1_0 (hr.mono (by omega)) rfl (pk_cons (pv 3) (pk_cons (pv 1) pk_nil))) pa_nil))))))
    (pss_cons (ps_if (pt_val (pv 2)) (pss_one (ps_set (i := 4) sc.nd rfl (Or.inl rfl) (pe_lst (pa_cons (pe_calN0 cn_race_liberties_1_0 (hr.mono (by omega)) rfl (pk_cons (pv 3) (pk_cons (pv 1) pk_nil))) (pa_cons (pe_cal c_race_need (hr.mono (by omega)) rfl (pa_cons (pv 1) (pa_cons (pv 3) pa_nil))) (pa_cons (pe_calN0 cn_race_lead_1_0 (hr.mono (by omega)) rfl (pk_cons (pv 3) (pk_cons (pv 1) pk_nil))) (pa_cons (pe_cal c_race_result (hr.mono (by omega)) rfl (pa_cons (pv 1) (pa_cons (pv 3) pa_nil))) pa_nil)))))))
    pss_nil)
    (pss_cons (ps_if (pt_not (pt_val (pe_cal c__law_is (hr.mono (by omega)) rfl (pa_cons (pv 4) (pa_cons (pe_lst (pa_cons (pe_cal c__law_total (hr.mono (by omega)) rfl (pa_cons (pv 0) (pa_cons (pv 3) pa_nil))) (pa_cons (pe_cal c__law_need (hr.mono (by omega)) rfl (pa_cons (pv 0) (pa_cons (pv 3) pa_nil))) (pa_cons (pe_cal c__law_lead (hr.mono (by omega)) rfl (pa_cons (pv 0) (pa_cons (pv 3) pa_nil))) (pa_cons (pe_cal c__law_result (hr.mono (by omega)) rfl (pa_cons (pv 0) (pa_cons (pv 3) pa_nil))) pa_nil))))) pa_nil))))) (pss_one (ps_ret pe_bl))
    pss_nil)
    (pss_cons (ps_set (i := 5) sc.nd rfl (Or.inl rfl) (pe_ifExp (pt_val (pv 2)) (pe_cal c_race_moves (hr.mono (by omega)) rfl (pa_cons (pv 1) (pa_cons (pv 3) pa_nil))) (pe_calN0 cn_race_moves_1_0 (hr.mono (by omega)) rfl (pk_cons (pv 3) (pk_cons (pv 1) pk_nil)))))
    (pss_cons (ps_if (pt_not (pt_val (pe_cal c__law_is (hr.mono (by omega)) rfl (pa_cons (pv 5) (pa_cons (pe_cal c__law_words (hr.mono (by omega)) rfl (pa_cons (pv 0) (pa_cons (pv 3) pa_nil))) pa_nil))))) (pss_one (ps_ret pe_bl))
    pss_nil)
    (pss_cons (ps_expr (pe_bm PySem.F.plainAttrs_list PySem.F.slot_list_append PySem.F.type_list_append mt_append (pv 5) (pa_cons pe_str pa_nil)))
    (pss_one (ps_for PassesOwn.never rfl (pi_seq (pe_cal c__law_words (hr.mono (by omega)) rfl (pa_cons (pv 0) (pa_cons (pv 3) pa_nil)))) (pg_name (i := 6) sc.nd rfl (.inl rfl)) (pss_cons (ps_par (i := 7) (j := 8) rfl sc.nd rfl rfl (by decide) rfl rfl (pa_cons (pe_ifExp (pt_val (pv 2)) (pe_cal c_race_after (hr.mono (by omega)) rfl (pa_cons (pv 1) (pa_cons (pv 3) (pa_cons (pv 6) pa_nil)))) (pe_calN0 cn_race_after_2_1_0 (hr.mono (by omega)) rfl (pk_cons (pv 6) (pk_cons (pv 3) (pk_cons (pv 1) pk_nil))))) (pa_cons (pe_cal c__law_behind (hr.mono (by omega)) rfl (pa_cons (pv 0) (pa_cons (pv 3) (pa_cons (pv 6) pa_nil)))) pa_nil)) rfl)
    (pss_one (ps_if (PW.pt (pw_or (PW.pt (pw_and (pt_cmp (pc_isN (pv 8))) (pw_and1 (pt_cmp (pc_notN (pv 7)))))) (pw_or1 (PW.pt (pw_and (pt_cmp (pc_notN (pv 8))) (pw_and1 (PW.pt (pw_or (pt_not (pt_val (pe_callB call_isi rfl m.n_isinstance boot_isinstance (pa_cons (pv 7) (pa_cons (pe_glob rfl m.g_Race rfl) pa_nil))))) (pw_or1 (pt_not (pt_val (pe_cal c__law_is (hr.mono (by omega)) rfl (pa_cons (pe_cal c__law_five (hr.mono (by omega)) rfl (pa_cons (pv 7) pa_nil)) (pa_cons (pe_callTy call_list_of rfl m.n_list boot_list (pa_cons (pv 8) pa_nil)) pa_nil)))))))))))))) (pss_one (ps_ret pe_bl))
    pss_nil))))))))))))
    (pss_one (ps_ret pe_bl)))
abbrev s__law_best_right : Stmt := top 69
theorem sc__law_best_right : FnScope ["race", "own", "by_name", "color", "due", "told"] ["race", "own", "by_name"] (defScope s__law_best_right) := ⟨rfl, rfl, rfl, by decide +kernel, rfl, by decide +kernel, by decide +kernel⟩
def t__law_best_right (K : PySem.W.Frag) (sp__law_best_words : Sp) (sp_best_race_moves : Sp) (sp__law_is : Sp) : TS :=
  (tSeq (tFor (iSeq K (tTup (tCons (tC (.int 1)) (tCons (tC (.int 2)) tNil)))) (gName 3) (tSeq (tAsg (tCall sp__law_best_words [] E0 (tCons (tVar 0) (tCons (tVar 3) tNil))) (gName 4))
    (tSeq (tAsg (tIf (tB (tVar 2)) (tCall sp_best_race_moves [] E0 (tCons (tVar 1) (tCons (tVar 3) tNil))) (tCallN 0 (List.length (α := Str) ["color", "race"]) sp_best_race_moves (fun vs zs => perm [1, 0] (vs ++ zs)) E0 tNil (tCons (tVar 3) (tCons (tVar 1) tNil)))) (gName 5))
    (tSeq (tIfS (tNot (tB (tCall sp__law_is [] E0 (tCons (tVar 5) (tCons (tVar 4) tNil))))) (tRet (tC (.bl false)))
    tNext)
    (tSeq (tDrop (tBM K "list" rAppend (tVar 5) (tCons (tC (.str "more")) tNil)))
    (tIfS (tNot (tB (tCall sp__law_is [] E0 (tCons (tCall sp_best_race_moves [] E0 (tCons (tVar 1) (tCons (tVar 3) tNil))) (tCons (tVar 4) tNil))))) (tRet (tC (.bl false)))
    tNext))))))
    (tRet (tC (.bl true))))
theorem dv__law_best_right {P : Program} {w : World} {K : PySem.W.Frag} {mg : Str → Option Value} {base : Heap} {k : Nat} {f : Addr} {sp__law_best_words : Sp} {sp_best_race_moves : Sp} {sp__law_is : Sp} (m : Mo K mg) (c__law_best_words : Cal P w K mg base k "_law_best_words" ["race", "color"] sp__law_best_words) (c_best_race_moves : Cal P w K mg base k "best_race_moves" ["race", "color"] sp_best_race_moves) (c__law_is : Cal P w K mg base k "_law_is" ["given", "due"] sp__law_is) (cn_best_race_moves_1_0 : CalN P w K mg base k "best_race_moves" 0 ["color", "race"] [1, 0] sp_best_race_moves) :
    Dv P w K mg base (k + 1) ["race", "own", "by_name", "color", "due", "told"] "_law_best_right" (defScope s__law_best_right) f (defBody s__law_best_right) (t__law_best_right K sp__law_best_words sp_best_race_moves sp__law_is) := by
  intro cdv A outer s H E hr
  have sc := sc__law_best_right
  exact (pss_cons (ps_for PassesOwn.never rfl (pi_seq (pe_tup (pa_cons pe_int (pa_cons pe_int pa_nil)))) (pg_name (i := 3) sc.nd rfl (.inl rfl)) (pss_cons (ps_set (i := 4) sc.nd rfl (Or.inl rfl) (pe_cal c__law_best_words (hr.mono (by omega)) rfl (pa_cons (pv 0) (pa_cons (pv 3) pa_nil))))
    (pss_cons (ps_set (i := 5) sc.nd rfl (Or.inl rfl) (pe_ifExp (pt_val (pv 2)) (pe_cal c_best_race_moves (hr.mono (by omega)) rfl (pa_cons (pv 1) (pa_cons (pv 3) pa_nil))) (pe_calN0 cn_best_race_moves_1_0 (hr.mono (by omega)) rfl (pk_cons (pv 3) (pk_cons (pv 1) pk_nil)))))
    (pss_cons (ps_if (pt_not (pt_val (pe_cal c__law_is (hr.mono (by omega)) rfl (pa_cons (pv 5) (pa_cons (pv 4) pa_nil))))) (pss_one (ps_ret pe_bl))
    pss_nil)
    (pss_cons (ps_expr (pe_bm PySem.F.plainAttrs_list PySem.F.slot_list_append PySem.F.type_list_append mt_append (pv 5) (pa_cons pe_str pa_nil)))
    (pss_one (ps_if (pt_not (pt_val (pe_cal c__law_is (hr.mono (by omega)) rfl (pa_cons (pe_cal c_best_race_moves (hr.mono (by omega)) rfl (pa_cons (pv 1) (pa_cons (pv 3) pa_nil))) (pa_cons (pv 4) pa_nil))))) (pss_one (ps_ret pe_bl))
    pss_nil)))))))
    (pss_one (ps_ret pe_bl)))
abbrev s__law_missing_right : Stmt := top 70
theorem sc__law_missing_right : FnScope ["race", "own", "by_name", "color", "first", "take", "stay", "told", "many", "goals", "less", "more", "result"] ["race", "own", "by_name"] (defScope s__law_missing_right) := ⟨rfl, rfl, rfl, by decide +kernel, rfl, by decide +kernel, by decide +kernel⟩
def t__law_missing_right (K : PySem.W.Frag) (sp__law_lead : Sp) (sp_outside_to_take : Sp) (sp_outside_to_stay : Sp) (sp__law_is : Sp) (sp_race_result : Sp) (sp__law_race : Sp) (sp__law_result : Sp) : TS :=
  (tSeq (tFor (iSeq K (tTup (tCons (tC (.int 1)) (tCons (tC (.int 2)) tNil)))) (gName 3) (tFor (iSeq K (tTup (tCons (tC (.int 1)) (tCons (tC (.int 2)) tNil)))) (gName 4) (tSeq (tAsg (tCB (rMaxB K) (tCons (tC (.int 0)) (tCons (tOp (rPlus K) (tOp (rI0 fun i j => .int (i - j)) (tC (.int 0)) (tCall sp__law_lead [] E0 (tCons (tVar 0) (tCons (tVar 3) tNil)))) (tCB rIntO (tCons (tOp (rNeA K) (tVar 4) (tVar 3)) tNil))) tNil))) (gName 5))
    (tSeq (tAsg (tCB (rMaxB K) (tCons (tC (.int 0)) (tCons (tOp (rPlus K) (tCall sp__law_lead [] E0 (tCons (tVar 0) (tCons (tOp (rI0 fun i j => .int (i - j)) (tC (.int 3)) (tVar 3)) tNil))) (tCB rIntO (tCons (tOp (rNeA K) (tVar 4) (tVar 3)) tNil))) tNil))) (gName 6))
    (tSeq (tAsg (tLst (tCons (tCall sp_outside_to_take [] E0 (tCons (tVar 1) (tCons (tVar 3) (tCons (tVar 4) tNil)))) (tCons (tCallN 0 (List.length (α := Str) ["first", "color", "race"]) sp_outside_to_stay (fun vs zs => perm [2, 1, 0] (vs ++ zs)) E0 tNil (tCons (tVar 4) (tCons (tVar 3) (tCons (tVar 1) tNil)))) tNil))) (gName 7))
    (tSeq (tIfS (tB (tVar 2)) (tAsg (tLst (tCons (tCallN 0 (List.length (α := Str) ["first", "color", "race"]) sp_outside_to_take (fun vs zs => perm [2, 1, 0] (vs ++ zs)) E0 tNil (tCons (tVar 4) (tCons (tVar 3) (tCons (tVar 1) tNil)))) (tCons (tCall sp_outside_to_stay [] E0 (tCons (tVar 1) (tCons (tVar 3) (tCons (tVar 4) tNil)))) tNil))) (gName 7))
    tNext)
    (tSeq (tIfS (tNot (tB (tCall sp__law_is [] E0 (tCons (tVar 7) (tCons (tLst (tCons (tVar 5) (tCons (tVar 6) tNil))) tNil))))) (tRet (tC (.bl false)))
    tNext)
    (tFor (iSeq K (tTup (tCons (tTup (tCons (tVar 5) (tCons (tLst (tCons (tVar 3) tNil)) tNil))) (tCons (tTup (tCons (tVar 6) (tCons (tLst (tCons (tVar 3) (tCons (tC (.int 0)) tNil))) tNil))) tNil)))) (gTup K 2 (gCons (gName 8) (gCons (gName 9) gNil))) (tFor (iSeq K (tSl (rSlSeq K) (tTup (tCons (tC (.int 0)) (tCons (tC (.int 1)) tNil))) tNoPart (tPart (tOp (rPlus K) (tC (.int 1)) (tCB rIntO (tCons (tOp (rI0 fun i j => .bl (decide (j < i))) (tVar 8) (tC (.int 0))) tNil)))))) (gName 10) (tSeq (tAsg (tOp (rPlus K) (tOp (rPlus K) (tSl (rSlSeq K) (tVar 0) tNoPart (tPart (tOp (rI0 fun i j => .int (i - j)) (tVar 3) (tC (.int 1))))) (tTup (tCons (tOp (rI0 fun i j => .int (i - j)) (tOp (rPlus K) (tOp (rIx K) (tVar 0) (tOp (rI0 fun i j => .int (i - j)) (tVar 3) (tC (.int 1)))) (tVar 8)) (tVar 10)) tNil))) (tSl (rSlSeq K) (tVar 0) (tPart (tVar 3)) tNoPart)) (gName 11))
    (tSeq (tIfS (tTest (tOp (rI0 fun i j => .bl (decide (j ≤ i))) (tCB (rMaxB K) (tCons (tVar 11) tNil)) (tOp (rI CPow fun i j => .int (i ^ j.toNat)) (tC (.int 10)) (tC (.int 20))))) tCont
    tNext)
    (tSeq (tAsg (tCall sp_race_result [] E0 (tCons (tCall sp__law_race [] E0 (tCons (tVar 11) (tCons (tVar 2) tNil))) (tCons (tVar 4) tNil))) (gName 12))
    (tIfS (tOr (tNot (tB (tCall sp__law_is [] E0 (tCons (tVar 12) (tCons (tCall sp__law_result [] E0 (tCons (tVar 11) (tCons (tVar 4) tNil))) tNil))))) (tTest (tOp (rNeA K) (tOp (rIn K false) (tVar 12) (tVar 9)) (tOp (rEqA K) (tVar 10) (tC (.int 0)))))) (tRet (tC (.bl false)))
    tNext)))))))))))))
    (tRet (tC (.bl true))))
theorem dv__law_missing_right {P : Program} {w : World} {K : PySem.W.Frag} {mg : Str → Option Value} {base : Heap} {k : Nat} {f : Addr} {sp__law_lead : Sp} {sp_outside_to_take : Sp} {sp_outside_to_stay : Sp} {sp__law_is : Sp} {sp_race_result : Sp} {sp__law_race : Sp} {sp__law_result : Sp} (m : Mo K mg) (c__law_lead : Cal P w K mg base k "_law_lead" ["race", "color"] sp__law_lead) (c_outside_to_take : Cal P w K mg base k "outside_to_take" ["race", "color", "first"] sp_outside_to_take) (c_outside_to_stay : Cal P w K mg base k "outside_to_stay" ["race", "color", "first"] sp_outside_to_stay) (c__law_is : Cal P w K mg base k "_law_is" ["given", "due"] sp__law_is) (c_race_result : Cal P w K mg base k "race_result" ["race", "first"] sp_race_result) (c__law_race : Cal P w K mg base k "_law_race" ["race", "by_name"] sp__law_race) (c__law_result : Cal P w K mg base k "_law_result" ["race", "first"] sp__law_result) (cn_outside_to_stay_2_1_0 : CalN P w K mg base k "outside_to_stay" 0 ["first", "color", "race"] [2, 1, 0] sp_outside_to_stay) (cn_outside_to_take_2_1_0 : CalN P w K mg base k "outside_to_take" 0 ["first", "color", "race"] [2, 1, 0] sp_outside_to_take) :
    Dv P w K mg base (k + 1) ["race", "own", "by_name", "color", "first", "take", "stay", "told", "many", "goals", "less", "more", "result"] "_law_missing_right" (defScope s__law_missing_right) f (defBody s__law_missing_right) (t__law_missing_right K sp__law_lead sp_outside_to_take sp_outside_to_stay sp__law_is sp_race_result sp__law_race sp__law_result) := by
  intro cdv A outer s H E hr
  have sc := sc__law_missing_right
  exact (pss_cons (ps_for PassesOwn.never rfl (pi_seq (pe_tup (pa_cons pe_int (pa_cons pe_int pa_nil)))) (pg_name (i := 3) sc.nd rfl (.inl rfl)) (pss_one (ps_for PassesOwn.never rfl (pi_seq (pe_tup (pa_cons pe_int (pa_cons pe_int pa_nil)))) (pg_name (i := 4) sc.nd rfl (.inl rfl)) (pss_cons (ps_set (i := 5) sc.nd rfl (Or.inl rfl) (pe_callB (call_maxB rfl hr.units) rfl m.n_max boot_max (pa_cons pe_int (pa_cons (pe_op op_plus (pe_op op_sub pe_int (pe_cal c__law_lead (hr.mono (by omega)) rfl (pa_cons (pv 0) (pa_cons (pv 3) pa_nil)))) (pe_callTy call_int1 rfl m.n_int boot_int (pa_cons (pe_cmpR (op_neA hr.units) (pv 4) (pv 3) (nomark _)) pa_nil))) pa_nil))))
    (pss_cons (ps_set (i := 6) sc.nd rfl (Or.inl rfl) (pe_callB (call_maxB rfl hr.units) rfl m.n_max boot_max (pa_cons pe_int (pa_cons (pe_op op_plus (pe_cal c__law_lead (hr.mono (by omega)) rfl (pa_cons (pv 0) (pa_cons (pe_op op_sub pe_int (pv 3)) pa_nil))) (pe_callTy call_int1 rfl m.n_int boot_int (pa_cons (pe_cmpR (op_neA hr.units) (pv 4) (pv 3) (nomark _)) pa_nil))) pa_nil))))
    (pss_cons (ps_set (i := 7) sc.nd rfl (Or.inl rfl) (pe_lst (pa_cons (pe_cal c_outside_to_take (hr.mono (by omega)) rfl (pa_cons (pv 1) (pa_cons (pv 3) (pa_cons (pv 4) pa_nil)))) (pa_cons (pe_calN0 cn_outside_to_stay_2_1_0 (hr.mono (by omega)) rfl (pk_cons (pv 4) (pk_cons (pv 3) (pk_cons (pv 1) pk_nil)))) pa_nil))))
    (pss_cons (ps_if (pt_val (pv 2)) (pss_one (ps_set (i := 7) sc.nd rfl (Or.inl rfl) (pe_lst (pa_cons (pe_calN0 cn_outside_to_take_2_1_0 (hr.mono (by omega)) rfl (pk_cons (pv 4) (pk_cons (pv 3) (pk_cons (pv 1) pk_nil)))) (pa_cons (pe_cal c_outside_to_stay (hr.mono (by omega)) rfl (pa_cons (pv 1) (pa_cons (pv 3) (pa_cons (pv 4) pa_nil)))) pa_nil)))))
    pss_nil)
    (pss_cons (ps_if (pt_not (pt_val (pe_cal c__law_is (hr.mono (by omega)) rfl (pa_cons (pv 7) (pa_cons (pe_lst (pa_cons (pv 5) (pa_cons (pv 6) pa_nil))) pa_nil))))) (pss_one (ps_ret pe_bl))
    pss_nil)
    (pss_one (ps_for PassesOwn.never rfl (pi_seq (pe_tup (pa_cons (pe_tup (pa_cons (pv 5) (pa_cons (pe_lst (pa_cons (pv 3) pa_nil)) pa_nil))) (pa_cons (pe_tup (pa_cons (pv 6) (pa_cons (pe_lst (pa_cons (pv 3) (pa_cons pe_int pa_nil))) pa_nil))) pa_nil)))) (pg_tup rfl (pgs_cons (pg_name (i := 8) sc.nd rfl (.inl rfl)) (pgs_cons (pg_name (i := 9) sc.nd rfl (.inl rfl)) pgs_nil))) (pss_one (ps_for PassesOwn.never rfl (pi_seq (pe_slice sl_seq (pe_tup (pa_cons pe_int (pa_cons pe_int pa_nil))) po_none (po_some (pe_op op_plus pe_int (pe_callTy call_int1 rfl m.n_int boot_int (pa_cons (pe_cmpR op_gt (pv 8) pe_int (nomark _)) pa_nil)))))) (pg_name (i := 10) sc.nd rfl (.inl rfl)) (pss_cons (ps_set (i := 11) sc.nd rfl (Or.inl rfl) (pe_op op_plus (pe_op op_plus (pe_slice sl_seq (pv 0) po_none (po_some (pe_op op_sub (pv 3) pe_int))) (pe_tup (pa_cons (pe_op op_sub (pe_op op_plus (pe_ix ix_seq (pv 0) (pe_op op_sub (pv 3) pe_int) (fun _ _ => rfl)) (pv 8)) (pv 10)) pa_nil))) (pe_slice sl_seq (pv 0) (po_some (pv 3)) po_none)))
    (pss_cons (ps_if (pt_cmpR op_ge (pe_callB (call_maxB rfl hr.units) rfl m.n_max boot_max (pa_cons (pv 11) pa_nil)) (pe_op op_pow pe_int pe_int) (nomark _)) (pss_one ps_continue)
    pss_nil)
    (pss_cons (ps_set (i := 12) sc.nd rfl (Or.inl rfl) (pe_cal c_race_result (hr.mono (by omega)) rfl (pa_cons (pe_cal c__law_race (hr.mono (by omega)) rfl (pa_cons (pv 11) (pa_cons (pv 2) pa_nil))) (pa_cons (pv 4) pa_nil))))
    (pss_one (ps_if (PW.pt (pw_or (pt_not (pt_val (pe_cal c__law_is (hr.mono (by omega)) rfl (pa_cons (pv 12) (pa_cons (pe_cal c__law_result (hr.mono (by omega)) rfl (pa_cons (pv 11) (pa_cons (pv 4) pa_nil))) pa_nil))))) (pw_or1 (pt_cmpR (op_neA hr.units) (pe_cmpR op_in_seq (pv 12) (pv 9) rfl) (pe_cmpR (op_eqA hr.units) (pv 10) pe_int (nomark _)) (nomark _))))) (pss_one (ps_ret pe_bl))
    pss_nil)))))))))))))))))
    (pss_one (ps_ret pe_bl)))
abbrev s__law_equal_right : Stmt := top 71
theorem sc__law_equal_right : FnScope ["box", "race", "own", "by_name", "at", "other", "turned"] ["box", "race", "own", "by_name"] (defScope s__law_equal_right) := ⟨rfl, rfl, rfl, by decide +kernel, rfl, by decide +kernel, by decide +kernel⟩
def t__law_equal_right (K : PySem.W.Frag) (sp__law_is : Sp) (sp__law_race : Sp) (sp_Race__eq__ : Sp) (sp__law_pick : Sp) : TS :=
  (tSeq (tIfS (tNot (tB (tCall sp__law_is [] E0 (tCons (tLst (tCons (tOp (fun x y H Q => (rEqA K) x y H Q ∨ rEqO K (He.ga K "Race") sp_Race__eq__ x y H Q) (tVar 2) (tCall sp__law_race [] E0 (tCons (tVar 1) (tCons (tNotV (tVar 3)) tNil)))) (tCons (tOp (fun x y H Q => (rNeA K) x y H Q ∨ rNeO K (He.ga K "Race") sp_Race__eq__ x y H Q) (tVar 2) (tCall sp__law_race [] E0 (tCons (tVar 1) (tCons (tVar 3) tNil)))) tNil))) (tCons (tLst (tCons (tC (.bl true)) (tCons (tC (.bl false)) tNil))) tNil))))) (tRet (tC (.bl false)))
    tNext)
    (tSeq (tFor (iRng1 (tCons (tC (.int 5)) tNil)) (gName 4) (tSeq (tAsg (tOp (rPlus K) (tOp (rPlus K) (tSl (rSlSeq K) (tVar 1) tNoPart (tPart (tVar 4))) (tTup (tCons (tOp (rPlus K) (tOp (rIx K) (tVar 1) (tVar 4)) (tCall sp__law_pick [] E0 (tCons (tVar 0) (tCons (tLst (tCons (tC (.int 1)) (tCons (tC (.int 1)) (tCons (tOp (rI CPow fun i j => .int (i ^ j.toNat)) (tC (.int 10)) (tC (.int 18))) tNil)))) tNil)))) tNil))) (tSl (rSlSeq K) (tVar 1) (tPart (tOp (rPlus K) (tVar 4) (tC (.int 1)))) tNoPart)) (gName 5))
    (tIfS (tNot (tB (tCall sp__law_is [] E0 (tCons (tLst (tCons (tOp (fun x y H Q => (rEqA K) x y H Q ∨ rEqO K (He.ga K "Race") sp_Race__eq__ x y H Q) (tVar 2) (tCall sp__law_race [] E0 (tCons (tVar 5) (tCons (tVar 3) tNil)))) (tCons (tOp (fun x y H Q => (rEqA K) x y H Q ∨ rEqO K (He.ga K "Race") sp_Race__eq__ x y H Q) (tCall sp__law_race [] E0 (tCons (tVar 5) (tCons (tNotV (tVar 3)) tNil))) (tVar 2)) tNil))) (tCons (tLst (tCons (tC (.bl false)) (tCons (tC (.bl false)) tNil))) tNil))))) (tRet (tC (.bl false)))
    tNext)))
    (tSeq (tAsg (tTup (tCons (tOp (rIx K) (tVar 1) (tC (.int 1))) (tCons (tOp (rIx K) (tVar 1) (tC (.int 0))) (tCons (tOp (rIx K) (tVar 1) (tC (.int 2))) (tCons (tOp (rIx K) (tVar 1) (tC (.int 4))) (tCons (tOp (rIx K) (tVar 1) (tC (.int 3))) tNil)))))) (gName 6))
    (tRet (tCall sp__law_is [] E0 (tCons (tLst (tCons (tOp (fun x y H Q => (rEqA K) x y H Q ∨ rEqO K (He.ga K "Race") sp_Race__eq__ x y H Q) (tVar 2) (tCall sp__law_race [] E0 (tCons (tVar 6) (tCons (tVar 3) tNil)))) (tCons (tOp (fun x y H Q => (rEqA K) x y H Q ∨ rEqO K (He.ga K "Race") sp_Race__eq__ x y H Q) (tVar 2) (tVar 1)) (tCons (tOp (fun x y H Q => (rEqA K) x y H Q ∨ rEqO K (He.ga K "Race") sp_Race__eq__ x y H Q) (tVar 2) (tOp (rIx K) (tVar 1) (tC (.int 0)))) (tCons (tOp (fun x y H Q => (rEqA K) x y H Q ∨ rEqO K (He.ga K "Race") sp_Race__eq__ x y H Q) (tVar 2) (tC (.int 5))) tNil))))) (tCons (tLst (tCons (tOp (fun x y H Q => (rEqA K) x y H Q ∨ rEqO K (He.ga K "Race") sp_Race__eq__ x y H Q) (tVar 6) (tVar 1)) (tCons (tC (.bl false)) (tCons (tC (.bl false)) (tCons (tC (.bl false)) tNil))))) tNil)))))))
theorem dv__law_equal_right {P : Program} {w : World} {K : PySem.W.Frag} {mg : Str → Option Value} {base : Heap} {k : Nat} {f : Addr} {sp__law_is : Sp} {sp__law_race : Sp} {sp_Race__eq__ : Sp} {sp__law_pick : Sp} (m : Mo K mg) (c__law_is : Cal P w K mg base k "_law_is" ["given", "due"] sp__law_is) (c__law_race : Cal P w K mg base k "_law_race" ["race", "by_name"] sp__law_race) (c__law_pick : Cal P w K mg base k "_law_pick" ["box", "items"] sp__law_pick) (ce_Race : CalE P w K mg base k (He.ga K "Race") sp_Race__eq__) :
    Dv P w K mg base (k + 1) ["box", "race", "own", "by_name", "at", "other", "turned"] "_law_equal_right" (defScope s__law_equal_right) f (defBody s__law_equal_right) (t__law_equal_right K sp__law_is sp__law_race sp_Race__eq__ sp__law_pick) := by
  intro cdv A outer s H E hr
  have sc := sc__law_equal_right
  exact (pss_cons (ps_if (pt_not (pt_val (pe_cal c__law_is (hr.mono (by omega)) rfl (pa_cons (pe_lst (pa_cons (pe_cmpR ((op_eqA hr.units).or (op_eqE ce_Race (hr.mono (by omega)))) (pv 2) (pe_cal c__law_race (hr.mono (by omega)) rfl (pa_cons (pv 1) (pa_cons (pe_not (pv 3)) pa_nil))) (nomark _)) (pa_cons (pe_cmpR ((op_neA hr.units).or (op_neE ce_Race hr)) (pv 2) (pe_cal c__law_race (hr.mono (by omega)) rfl (pa_cons (pv 1) (pa_cons (pv 3) pa_nil))) (nomark _)) pa_nil))) (pa_cons (pe_lst (pa_cons pe_bl (pa_cons pe_bl pa_nil))) pa_nil))))) (pss_one (ps_ret pe_bl))
    pss_nil)
    (pss_cons (ps_for PassesOwn.never rfl (pi_range1 rfl m.n_range (pa_cons pe_int pa_nil)) (pg_name (i := 4) sc.nd rfl (.inl rfl)) (pss_cons (ps_set (i := 5) sc.nd rfl (Or.inl rfl) (pe_op op_plus (pe_op op_plus (pe_slice sl_seq (pv 1) po_none (po_some (pv 4))) (pe_tup (pa_cons (pe_op op_plus (pe_ix ix_seq (pv 1) (pv 4) (fun _ _ => rfl)) (pe_cal c__law_pick (hr.mono (by omega)) rfl (pa_cons (pv 0) (pa_cons (pe_lst (pa_cons pe_int (pa_cons pe_int (pa_cons (pe_op op_pow pe_int pe_int) pa_nil)))) pa_nil)))) pa_nil))) (pe_slice sl_seq (pv 1) (po_some (pe_op op_plus (pv 4) pe_int)) po_none)))
    (pss_one (ps_if (pt_not (pt_val (pe_cal c__law_is (hr.mono (by omega)) rfl (pa_cons (pe_lst (pa_cons (pe_cmpR ((op_eqA hr.units).or (op_eqE ce_Race (hr.mono (by omega)))) (pv 2) (pe_cal c__law_race (hr.mono (by omega)) rfl (pa_cons (pv 5) (pa_cons (pv 3) pa_nil))) (nomark _)) (pa_cons (pe_cmpR ((op_eqA hr.units).or (op_eqE ce_Race (hr.mono (by omega)))) (pe_cal c__law_race (hr.mono (by omega)) rfl (pa_cons (pv 5) (pa_cons (pe_not (pv 3)) pa_nil))) (pv 2) (nomark _)) pa_nil))) (pa_cons (pe_lst (pa_cons pe_bl (pa_cons pe_bl pa_nil))) pa_nil))))) (pss_one (ps_ret pe_bl))
    pss_nil))))
    (pss_cons (ps_set (i := 6) sc.nd rfl (Or.inl rfl) (pe_tup (pa_cons (pe_ix ix_seq (pv 1) pe_int (fun _ _ => rfl)) (pa_cons (pe_ix ix_seq (pv 1) pe_int (fun _ _ => rfl)) (pa_cons (pe_ix ix_seq (pv 1) pe_int (fun _ _ => rfl)) (pa_cons (pe_ix ix_seq (pv 1) pe_int (fun _ _ => rfl)) (pa_cons (pe_ix ix_seq (pv 1) pe_int (fun _ _ => rfl)) pa_nil)))))))
    (pss_one (ps_ret (pe_cal c__law_is (hr.mono (by omega)) rfl (pa_cons (pe_lst (pa_cons (pe_cmpR ((op_eqA hr.units).or (op_eqE ce_Race (hr.mono (by omega)))) (pv 2) (pe_cal c__law_race (hr.mono (by omega)) rfl (pa_cons (pv 6) (pa_cons (pv 3) pa_nil))) (nomark _)) (pa_cons (pe_cmpR ((op_eqA hr.units).or (op_eqE ce_Race (hr.mono (by omega)))) (pv 2) (pv 1) (nomark _)) (pa_cons (pe_cmpR ((op_eqA hr.units).or (op_eqE ce_Race (hr.mono (by omega)))) (pv 2) (pe_ix ix_seq (pv 1) pe_int (fun _ _ => rfl)) (nomark _)) (pa_cons (pe_cmpR ((op_eqA hr.units).or (op_eqE ce_Race (hr.mono (by omega)))) (pv 2) pe_int (nomark _)) pa_nil))))) (pa_cons (pe_lst (pa_cons (pe_cmpR ((op_eqA hr.units).or (op_eqE ce_Race (hr.mono (by omega)))) (pv 6) (pv 1) (nomark _)) (pa_cons pe_bl (pa_cons pe_bl (pa_cons pe_bl pa_nil))))) pa_nil))))))))
abbrev s_law : Stmt := top 72
theorem sc_law : FnScope ["script", "k", "box", "by_name", "turn", "race", "own", "at"] ["script"] (defScope s_law) := ⟨rfl, rfl, rfl, by decide +kernel, rfl, by decide +kernel, by decide +kernel⟩
def t_law (K : PySem.W.Frag) (sp__law_box : Sp) (sp__law_cell : Sp) (sp__law_take : Sp) (sp__law_near_race : Sp) (sp__law_far : Sp) (sp__law_race : Sp) (sp__law_is : Sp) (sp__law_five : Sp) (sp__law_counts_right : Sp) (sp__law_best_right : Sp) (sp__law_missing_right : Sp) (sp__law_equal_right : Sp) : TS :=
  (tSeq (tFor (iRng1 (tCons (tCB (rMaxA K) (tCons (tC (.int 2)) (tCons (tCB (rMinA K) (tCons (tC (.int 4)) (tCons (tCB (rLen K) (tCons (tVar 0) tNil)) tNil))) tNil))) tNil)) (gName 1) (tSeq (tAsg (tCall sp__law_box [] E0 (tCons (tCall sp__law_cell [] E0 (tCons (tVar 0) (tCons (tVar 1) tNil))) tNil)) (gName 2))
    (tSeq (tAsg (tOp (rEqA K) (tCall sp__law_take [] E0 (tCons (tVar 2) (tCons (tC (.int 2)) tNil))) (tC (.int 0))) (gName 3))
    (tFor (iRng1 (tCons (tC (.int 6)) tNil)) (gName 4) (tSeq (tAsg (tCall sp__law_near_race [] E0 (tCons (tVar 2) (tCons (tOp (rI0 fun i j => .bl (decide (i < j))) (tVar 4) (tC (.int 4))) tNil))) (gName 5))
    (tSeq (tIfS (tTest (tOp (rEqA K) (tVar 4) (tC (.int 5)))) (tAsg (tCB (rTupO K) (tCons (tLc (iRng1 (tCons (tC (.int 5)) tNil)) (gName 7) tYes (tOp (rPlus K) (tCall sp__law_far [] E0 (tCons (tVar 2) tNil)) (tCB rIntO (tCons (tOp (rI0 fun i j => .bl (decide (i < j))) (tVar 7) (tC (.int 2))) tNil))) [7]) tNil)) (gName 5))
    tNext)
    (tSeq (tAsg (tCall sp__law_race [] E0 (tCons (tVar 5) (tCons (tVar 3) tNil))) (gName 6))
    (tSeq (tIfS (tOr (tNot (tB (tCall sp__law_is [] E0 (tCons (tCall sp__law_five [] E0 (tCons (tVar 6) tNil)) (tCons (tCB (rListO K) (tCons (tVar 5) tNil)) tNil))))) (tOr (tNot (tB (tCall sp__law_counts_right [] E0 (tCons (tVar 5) (tCons (tVar 6) (tCons (tVar 3) tNil)))))) (tNot (tB (tCall sp__law_best_right [] E0 (tCons (tVar 5) (tCons (tVar 6) (tCons (tNotV (tVar 3)) tNil)))))))) (tRet (tC (.bl false)))
    tNext)
    (tSeq (tIfS (tOr (tNot (tB (tCall sp__law_missing_right [] E0 (tCons (tVar 5) (tCons (tVar 6) (tCons (tVar 3) tNil)))))) (tNot (tB (tCall sp__law_equal_right [] E0 (tCons (tVar 2) (tCons (tVar 5) (tCons (tVar 6) (tCons (tNotV (tVar 3)) tNil)))))))) (tRet (tC (.bl false)))
    tNext)
    (tAsg (tNotV (tVar 3)) (gName 3)))))))))))
    (tRet (tC (.bl true))))
theorem dv_law {P : Program} {w : World} {K : PySem.W.Frag} {mg : Str → Option Value} {base : Heap} {k : Nat} {f : Addr} {sp__law_box : Sp} {sp__law_cell : Sp} {sp__law_take : Sp} {sp__law_near_race : Sp} {sp__law_far : Sp} {sp__law_race : Sp} {sp__law_is : Sp} {sp__law_five : Sp} {sp__law_counts_right : Sp} {sp__law_best_right : Sp} {sp__law_missing_right : Sp} {sp__law_equal_right : Sp} (m : Mo K mg) (c__law_box : Cal P w K mg base k "_law_box" ["great"] sp__law_box) (c__law_cell : Cal P w K mg base k "_law_cell" ["script", "k"] sp__law_cell) (c__law_take : Cal P w K mg base k "_law_take" ["box", "many"] sp__law_take) (c__law_near_race : Cal P w K mg base k "_law_near_race" ["box", "far"] sp__law_near_race) (c__law_far : Cal P w K mg base k "_law_far" ["box"] sp__law_far) (c__law_race : Cal P w K mg base k "_law_race" ["race", "by_name"] sp__law_race) (c__law_is : Cal P w K mg base k "_law_is" ["given", "due"] sp__law_is) (c__law_five : Cal P w K mg base k "_law_five" ["told"] sp__law_five) (c__law_counts_right : Cal P w K mg base k "_law_counts_right" ["race", "own", "by_name"] sp__law_counts_right) (c__law_best_right : Cal P w K mg base k "_law_best_right" ["race", "own", "by_name"] sp__law_best_right) (c__law_missing_right : Cal P w K mg base k "_law_missing_right" ["race", "own", "by_name"] sp__law_missing_right) (c__law_equal_right : Cal P w K mg base k "_law_equal_right" ["box", "race", "own", "by_name"] sp__law_equal_right) :
    Dv P w K mg base (k + 1) ["script", "k", "box", "by_name", "turn", "race", "own", "at"] "law" (defScope s_law) f (defBody s_law) (t_law K sp__law_box sp__law_cell sp__law_take sp__law_near_race sp__law_far sp__law_race sp__law_is sp__law_five sp__law_counts_right sp__law_best_right sp__law_missing_right sp__law_equal_right) := by
  intro cdv A outer s H E hr
  have sc := sc_law
  exact (pss_cons (ps_for PassesOwn.never rfl (pi_range1 rfl m.n_range (pa_cons (pe_callB (call_maxA rfl) rfl m.n_max boot_max (pa_cons pe_int (pa_cons (pe_callB (call_minA rfl) rfl m.n_min boot_min (pa_cons pe_int (pa_cons (pe_callB call_len rfl m.n_len boot_len (pa_cons (pv 0) pa_nil)) pa_nil))) pa_nil))) pa_nil)) (pg_name (i := 1) sc.nd rfl (.inl rfl)) (pss_cons (ps_set (i := 2) sc.nd rfl (Or.inr rfl) (pe_cal c__law_box (hr.mono (by omega)) rfl (pa_cons (pe_cal c__law_cell (hr.mono (by omega)) rfl (pa_cons (pv 0) (pa_cons (pv 1) pa_nil))) pa_nil)))
    (pss_cons (ps_set (i := 3) sc.nd rfl (Or.inl rfl) (pe_cmpR (op_eqA hr.units) (pe_cal c__law_take (hr.mono (by omega)) rfl (pa_cons (pv 2) (pa_cons pe_int pa_nil))) pe_int (nomark _)))
    (pss_one (ps_for PassesOwn.never rfl (pi_range1 rfl m.n_range (pa_cons pe_int pa_nil)) (pg_name (i := 4) sc.nd rfl (.inl rfl)) (pss_cons (ps_set (i := 5) sc.nd rfl (Or.inl rfl) (pe_cal c__law_near_race (hr.mono (by omega)) rfl (pa_cons (pv 2) (pa_cons (pe_cmpR op_lt (pv 4) pe_int (nomark _)) pa_nil))))
    (pss_cons (ps_if (pt_cmpR (op_eqA hr.units) (pv 4) pe_int (nomark _)) (pss_one (ps_set (i := 5) sc.nd rfl (Or.inl rfl) (pe_callTy call_tuple_of rfl m.n_tuple boot_tuple (pa_cons (pe_lc (own := [("at", 7)]) rfl sc.nd (pi_range1 rfl m.n_range (pa_cons pe_int pa_nil)) (blkOk_by (N := ["script", "k", "box", "by_name", "turn", "race", "own", "at"]) (sc := defScope s_law) (by decide +kernel)) (fun _ _ _ _ _ => (pg_name (i := 7) sc.nd rfl (.inl rfl))) (fun _ _ _ _ _ => pts_nil) (fun _ _ _ _ _ => (pe_op op_plus (pe_cal c__law_far (hr.mono (by omega)) rfl (pa_cons (pv 2) pa_nil)) (pe_callTy call_int1 rfl m.n_int boot_int (pa_cons (pe_cmpR op_lt (pv 7) pe_int (nomark _)) pa_nil))))) pa_nil))))
    pss_nil)
    (pss_cons (ps_set (i := 6) sc.nd rfl (Or.inl rfl) (pe_cal c__law_race (hr.mono (by omega)) rfl (pa_cons (pv 5) (pa_cons (pv 3) pa_nil))))
    (pss_cons (ps_if (PW.pt (pw_or (pt_not (pt_val (pe_cal c__law_is (hr.mono (by omega)) rfl (pa_cons (pe_cal c__law_five (hr.mono (by omega)) rfl (pa_cons (pv 6) pa_nil)) (pa_cons (pe_callTy call_list_of rfl m.n_list boot_list (pa_cons (pv 5) pa_nil)) pa_nil))))) (pw_or (pt_not (pt_val (pe_cal c__law_counts_right (hr.mono (by omega)) rfl (pa_cons (pv 5) (pa_cons (pv 6) (pa_cons (pv 3) pa_nil)))))) (pw_or1 (pt_not (pt_val (pe_cal c__law_best_right (hr.mono (by omega)) rfl (pa_cons (pv 5) (pa_cons (pv 6) (pa_cons (pe_not (pv 3)) pa_nil)))))))))) (pss_one (ps_ret pe_bl))
    pss_nil)
    (pss_cons (ps_if (PW.pt (pw_or (pt_not (pt_val (pe_cal c__law_missing_right (hr.mono (by omega)) rfl (pa_cons (pv 5) (pa_cons (pv 6) (pa_cons (pv 3) pa_nil)))))) (pw_or1 (pt_not (pt_val (pe_cal c__law_equal_right (hr.mono (by omega)) rfl (pa_cons (pv 2) (pa_cons (pv 5) (pa_cons (pv 6) (pa_cons (pe_not (pv 3)) pa_nil)))))))))) (pss_one (ps_ret pe_bl))
    pss_nil)
    (pss_one (ps_set (i := 3) sc.nd rfl (Or.inl rfl) (pe_not (pv 3))))))))))))))
    (pss_one (ps_ret pe_bl)))
end R35
set_option maxRecDepth 100000
set_option maxHeartbeats 4000000
namespace R35
open PySem PySem.Spec PyProof.Rows L2 Z
section
variable {K : PySem.W.Frag} {Γ : Z.Env} {M : Mem} {E : XK} {t : TA} {a b c d i j h k : Int} {r : Bool} {p q : P} {ps qs : List P}
local macro_rules | `(tactic| get_elem_tactic_trivial) => `(tactic| first
  | exact rv_plus_i | exact rv_ii | exact rv_ib | exact rv_eq_ii | exact rv_ne_ii | exact rv_eq_ss | exact rv_ne_ss | exact rv_eq_bb | exact rv_ne_bb | exact rv_ixT rfl | exact rv_ixL rfl
  | exact rv_plus_t (Nat.le_of_ble_eq_true rfl) | exact rv_plus_l (Nat.le_of_ble_eq_true rfl) | exact rv_plus_s (Nat.le_of_ble_eq_true rfl) | exact rv_isB | exact rv_inL rfl rfl | exact rv_inT rfl rfl | exact rv_ic (by decide))
local macro_rules | `(tactic| decreasing_trivial) => `(tactic| first
  | exact rc_len rfl | exact rc_int | exact rc_intB | exact rc_abs | exact rc_tupleL | exact rc_tupleT | exact rc_list rfl | exact rc_max2 | exact rc_min2)
local macro_rules | `(tactic| trivial) => `(tactic| first
  | exact ep_int | exact ep_str | exact ep_bl | exact ep_non
  | exact ep_var rfl
  | (apply ep_op; trivial; trivial; get_elem_tactic_trivial)
  | (apply ep_cb; trivial; decreasing_trivial)
  | (apply ep_andF; trivial; rfl)
  | (apply ep_andV; trivial; intro _; trivial)
  | (apply ep_orT; trivial; rfl)
  | (apply ep_orV; trivial; intro _; trivial)
  | (apply ep_notV; trivial)
  | (apply ep_isN; trivial) | (apply ep_notN; trivial)
  | (apply ep_un; trivial; exact ru_i)
  | (apply ep_tup; trivial; exact Nat.le_of_ble_eq_true rfl) | (apply ep_lst; trivial; exact Nat.le_of_ble_eq_true rfl)
  | (apply ep_chain; trivial; trivial; get_elem_tactic_trivial; intro _; trivial; intro _; get_elem_tactic_trivial)
  | exact eps_nil | (apply eps_cons; trivial; trivial) | (apply eps_star; trivial; rfl; trivial)
  | (apply ef_ep; trivial)
  | (apply eb_B; trivial) | (apply eb_test; trivial)
  | (apply eb_andF; trivial; rfl)
  | (apply eb_and; trivial; intro _; trivial)
  | (apply eb_orT; trivial; rfl)
  | (apply eb_or; trivial; intro _; trivial)
  | (apply eb_not; trivial)
  | (apply ep_ifT; trivial; rfl; trivial) | (apply ep_ifF; trivial; rfl; trivial)
  | (apply ep_ifI; trivial; intro _; trivial; intro _; trivial) | (apply ep_ifL; trivial; intro _; trivial; intro _; trivial)
  | (apply ep_isi_int; trivial; first | rfl | assumption) | (apply ep_isi_bool; trivial; first | rfl | assumption) | (apply ep_isi_tuple; trivial; first | rfl | assumption) | (apply ep_isi_str; trivial; first | rfl | assumption)
  | (apply ep_isi_list; trivial; first | rfl | assumption) | (apply ep_isi_lt; trivial; first | rfl | assumption))

abbrev DR (res : P → Prop) : DE := { nx := fun _ _ => res .non, rt := fun M d => ∃ r, Fz 0 M d r ∧ res r }
abbrev Sis_integer (K : PySem.W.Frag) : Sp := PF K (fun p : P => [p]) (fun p => isInsP p = none) (fun p r => r = .bl (pI p && !pB p))
theorem pl_is_integer (p : P) (hp : isInsP p = none) : SV K 0 (t_is_integer K) (startE 1 [.v p]) [] (DR (· = .bl (pI p && !pB p))) := by
  unfold t_is_integer
  apply sv_retP; trivial; exact fz_is rfl
theorem ca_is_integer (hh : EPs K t Γ M [p]) (hn : isInsP p = none) : Z.EP K (tCall (Sis_integer K) [] E t) Γ M (.bl (pI p && !pB p)) := ep_call hh p rfl hn (fun _ h => h)
local macro_rules | `(tactic| trivial) => `(tactic| (apply ca_is_integer; trivial; first | rfl | assumption))
abbrev Sis_count (K : PySem.W.Frag) : Sp := PF K (fun i : Int => [P.int i]) (fun _ => True) (fun i r => r = .bl (decide (0 ≤ i)))
theorem pl_is_count (i : Int) : SV K 0 (t_is_count K (Sis_integer K)) (startE 1 [.v (.int i)]) [] (DR (· = .bl (decide (0 ≤ i)))) := by
  unfold t_is_count
  apply sv_retP; trivial; exact fz_is rfl
theorem ca_is_count (hh : EPs K t Γ M [.int i]) : Z.EP K (tCall (Sis_count K) [] E t) Γ M (.bl (decide (0 ≤ i))) := ep_call hh i rfl True.intro (fun _ h => h)
local macro_rules | `(tactic| trivial) => `(tactic| (apply ca_is_count; trivial))
def btw (l m : Int) : P → Bool
  | .int i => decide (l ≤ i) && decide (i ≤ m)
  | _ => false
abbrev Sis_between (K : PySem.W.Frag) : Sp := PF K (fun x : P × Int × Int => [x.1, .int x.2.1, .int x.2.2]) (fun x => isInsP x.1 = none) (fun x r => r = .bl (btw x.2.1 x.2.2 x.1))
theorem pl_is_between (p : P) (l m : Int) (hp : isInsP p = none) : SV K 0 (t_is_between K (Sis_integer K)) (startE 3 [.v p, .v (.int l), .v (.int m)]) [] (DR (· = .bl (btw l m p))) := by
  unfold t_is_between
  cases p <;> first | (cases hp; done) | (apply sv_retP; trivial; exact fz_is rfl)
theorem ca_is_between (hh : EPs K t Γ M [p, .int i, .int j]) (hn : isInsP p = none) : Z.EP K (tCall (Sis_between K) [] E t) Γ M (.bl (btw i j p)) := ep_call hh (p, i, j) rfl hn (fun _ h => h)
local macro_rules | `(tactic| trivial) => `(tactic| (apply ca_is_between; trivial; first | rfl | assumption))
abbrev Sis_color (K : PySem.W.Frag) : Sp := PF K (fun p : P => [p]) (fun p => isInsP p = none) (fun p r => r = .bl (btw 1 2 p))
theorem pl_is_color (p : P) (hp : isInsP p = none) : SV K 0 (t_is_color K (Sis_between K)) (startE 1 [.v p]) [] (DR (· = .bl (btw 1 2 p))) := by
  unfold t_is_color
  apply sv_retP; trivial; exact fz_is rfl
theorem ca_is_color (hh : EPs K t Γ M [p]) (hn : isInsP p = none) : Z.EP K (tCall (Sis_color K) [] E t) Γ M (.bl (btw 1 2 p)) := ep_call hh p rfl hn (fun _ h => h)
local macro_rules | `(tactic| trivial) => `(tactic| (apply ca_is_color; trivial; first | rfl | assumption))
abbrev Sother_color (K : PySem.W.Frag) : Sp := PF K (fun k : Int => [.int k]) (fun _ => True) (fun k r => r = .int (1 + 2 - k))
theorem pl_other_color (k : Int) : SV K 0 (t_other_color K) (startE 1 [.v (.int k)]) [] (DR (· = .int (1 + 2 - k))) := by
  unfold t_other_color
  apply sv_retP; trivial; exact fz_is rfl
theorem ca_other_color (hh : EPs K t Γ M [.int k]) : Z.EP K (tCall (Sother_color K) [] E t) Γ M (.int (1 + 2 - k)) := ep_call hh k rfl True.intro (fun _ h => h)
local macro_rules | `(tactic| trivial) => `(tactic| (apply ca_other_color; trivial))
abbrev Scheck_color (K : PySem.W.Frag) : Sp := PF K (fun k : Int => [.int k]) (fun k => k = 1 ∨ k = 2) (fun k r => r = .non)
theorem pl_check_color (k : Int) (hk : k = 1 ∨ k = 2) : SV K 0 (t_check_color K (Sis_color K)) (startE 1 [.v (.int k)]) [] (DR (· = .non)) := by
  unfold t_check_color
  rcases hk with rfl | rfl <;> (apply sv_ifF; trivial; rfl; apply sv_next; rfl)
theorem ca_check_color (hh : EPs K t Γ M [.int k]) (hk : k = 1 ∨ k = 2) : Z.EP K (tCall (Scheck_color K) [] E t) Γ M .non := ep_call hh k rfl hk (fun _ h => h)
abbrev Scheck_first (K : PySem.W.Frag) : Sp := PF K (fun k : Int => [.int k]) (fun k => k = 1 ∨ k = 2) (fun k r => r = .non)
theorem pl_check_first (k : Int) (hk : k = 1 ∨ k = 2) : SV K 0 (t_check_first K (Sis_color K)) (startE 1 [.v (.int k)]) [] (DR (· = .non)) := by
  unfold t_check_first
  rcases hk with rfl | rfl <;> (apply sv_ifF; trivial; rfl; apply sv_next; rfl)
theorem ca_check_first (hh : EPs K t Γ M [.int k]) (hk : k = 1 ∨ k = 2) : Z.EP K (tCall (Scheck_first K) [] E t) Γ M .non := ep_call hh k rfl hk (fun _ h => h)
end
end R35
set_option maxRecDepth 100000
set_option maxHeartbeats 4000000
namespace R35
open PySem PySem.Spec PyProof.Rows L2 Z
theorem atI_nat {α : Type} {xs : List α} {i : Nat} {x : α} (h : xs[i]? = some x) : atI xs (i : Int) = some x := by
  have hi := (List.getElem?_eq_some_iff.mp h).1
  unfold atI ixN
  rw [if_pos (by omega), if_pos (by omega), Int.toNat_natCast]
  exact h
theorem ixN_nat {n i : Nat} (h : i < n) : ixN n (i : Int) = some i := by
  unfold ixN
  rw [if_pos (by omega), if_pos (by omega), Int.toNat_natCast]
theorem cut_ints (ns : List Int) (lo hi : Option Int) : cutP (ns.map P.int) lo hi = (cutP ns lo hi).map P.int := by
  unfold cutP
  rw [List.length_map, List.map_take, List.map_drop]
section
variable {K : PySem.W.Frag} {Γ : Z.Env} {M : Mem} {E : XK} {t : TA} {a b c d i j h k : Int} {r : Bool} {p q : P} {ps qs : List P} {te : TE} {w : Str}
theorem ep_ixC {x kc : Nat} {ds : List D} (hc : Γ[x]? = some (some (.c kc))) (hm : M[kc]? = some (.l ds)) (hi : atI ds j = some (.v p)) : Z.EP K (tOp (rIx K) (tVar x) (tC (.int j))) Γ M p :=
  ev_ixC (.inl rfl) (ev_var hc ⟨kc, rfl, ev_ep ep_int ⟨j, ds, .v p, rfl, hm, hi, rfl, rfl⟩⟩)
local macro_rules | `(tactic| get_elem_tactic_trivial) => `(tactic| first
  | exact rv_plus_i | exact rv_ii | exact rv_ib | exact rv_eq_ii | exact rv_ne_ii | exact rv_eq_ss | exact rv_ne_ss | exact rv_eq_bb | exact rv_ne_bb | exact rv_ixT rfl | exact rv_ixL rfl
  | exact rv_plus_t (Nat.le_of_ble_eq_true rfl) | exact rv_plus_l (Nat.le_of_ble_eq_true rfl) | exact rv_plus_s (Nat.le_of_ble_eq_true rfl) | exact rv_isB | exact rv_inL rfl rfl | exact rv_inT rfl rfl | exact rv_ic (by decide))
local macro_rules | `(tactic| decreasing_trivial) => `(tactic| first
  | exact rc_len rfl | exact rc_int | exact rc_intB | exact rc_abs | exact rc_tupleL | exact rc_tupleT | exact rc_list rfl | exact rc_max2 | exact rc_min2)
local macro_rules | `(tactic| trivial) => `(tactic| first
  | exact ep_int | exact ep_str | exact ep_bl | exact ep_non
  | exact ep_var rfl
  | (apply ep_op; trivial; trivial; get_elem_tactic_trivial)
  | (apply ep_cb; trivial; decreasing_trivial)
  | (apply ep_andF; trivial; rfl)
  | (apply ep_andV; trivial; intro _; trivial)
  | (apply ep_orT; trivial; rfl)
  | (apply ep_orV; trivial; intro _; trivial)
  | (apply ep_notV; trivial)
  | (apply ep_isN; trivial) | (apply ep_notN; trivial)
  | (apply ep_un; trivial; exact ru_i)
  | (apply ep_tup; trivial; exact Nat.le_of_ble_eq_true rfl) | (apply ep_lst; trivial; exact Nat.le_of_ble_eq_true rfl)
  | (apply ep_chain; trivial; trivial; get_elem_tactic_trivial; intro _; trivial; intro _; get_elem_tactic_trivial)
  | exact eps_nil | (apply eps_cons; trivial; trivial) | (apply eps_star; trivial; rfl; trivial)
  | (apply ef_ep; trivial)
  | (apply eb_B; trivial) | (apply eb_test; trivial)
  | (apply eb_andF; trivial; rfl)
  | (apply eb_and; trivial; intro _; trivial)
  | (apply eb_orT; trivial; rfl)
  | (apply eb_or; trivial; intro _; trivial)
  | (apply eb_not; trivial)
  | (apply ep_ifT; trivial; rfl; trivial) | (apply ep_ifF; trivial; rfl; trivial)
  | (apply ep_ifI; trivial; intro _; trivial; intro _; trivial) | (apply ep_ifL; trivial; intro _; trivial; intro _; trivial)
  | (apply ep_isi_int; trivial; first | rfl | assumption) | (apply ep_isi_bool; trivial; first | rfl | assumption) | (apply ep_isi_tuple; trivial; first | rfl | assumption) | (apply ep_isi_str; trivial; first | rfl | assumption)
  | (apply ep_isi_list; trivial; first | rfl | assumption) | (apply ep_isi_lt; trivial; first | rfl | assumption))
local macro_rules | `(tactic| trivial) => `(tactic| (apply ca_is_integer; trivial; first | rfl | assumption))
local macro_rules | `(tactic| trivial) => `(tactic| (apply ca_is_count; trivial))
local macro_rules | `(tactic| trivial) => `(tactic| (apply ca_is_between; trivial; first | rfl | assumption))
local macro_rules | `(tactic| trivial) => `(tactic| (apply ca_is_color; trivial; first | rfl | assumption))
local macro_rules | `(tactic| trivial) => `(tactic| (apply ca_other_color; trivial))
local macro_rules | `(tactic| trivial) => `(tactic| (apply ep_ixC rfl rfl; rfl))
/-! the script's cell -/
abbrev S_law_cell (K : PySem.W.Frag) : Sp := PF K (fun x : List Int × Int => [.scr (x.1.map .int), .int x.2]) (fun x => 0 ≤ x.2) (fun x r => ∃ i, r = .int i)
theorem pl_law_cell (ns : List Int) (k : Int) (hk : 0 ≤ k) : SV K 0 (t__law_cell K) (startE 2 [.v (.scr (ns.map .int)), .v (.int k)]) [] (DR (fun r => ∃ i, r = .int i)) := by
  unfold t__law_cell
  by_cases hlt : k < (ns.length : Int)
  · have hj : ns[k.toNat]? = some (ns[k.toNat]'(by omega)) := List.getElem?_eq_getElem _
    have hi : atI (ns.map P.int) k = some (.int (ns[k.toNat]'(by omega))) := by
      have e := atI_nat (xs := ns.map P.int) (i := k.toNat) (x := .int (ns[k.toNat]'(by omega))) (by rw [List.getElem?_map, hj]; rfl)
      rwa [Int.toNat_of_nonneg hk] at e
    apply sv_retP; apply ep_ifT
    · apply eb_test; apply ep_op; trivial; (apply ep_cb; apply eps_cons; trivial; exact eps_nil; exact rc_len (n := (ns.map P.int).length) rfl); exact rv_ib
    · exact decide_eq_true (by rw [List.length_map]; exact hlt)
    · apply ep_op; trivial; trivial; exact rv_ixR hi
    · exact ⟨_, .v _, _, rfl⟩
  · apply sv_retP; apply ep_ifF
    · apply eb_test; apply ep_op; trivial; (apply ep_cb; apply eps_cons; trivial; exact eps_nil; exact rc_len (n := (ns.map P.int).length) rfl); exact rv_ib
    · exact decide_eq_false (by rw [List.length_map]; exact hlt)
    · apply ep_op
      · apply ep_op; trivial; trivial; exact rv_ic (.inl ⟨by decide, by decide⟩)
      · apply ep_op
        · apply ep_cb; apply eps_cons; apply ep_cb; apply eps_cons
          · apply ep_is (ep_sl (ep_var rfl) eo_none (eo_some ep_int) slv_r) (by rw [cut_ints])
          · exact eps_nil
          · exact rc_sum
          · exact eps_nil
          · exact rc_int
        · trivial
        · exact rv_ic (by decide)
      · exact rv_plus_i
    · exact ⟨_, .v _, _, rfl⟩
theorem ca_law_cell {ns : List Int} (hh : EPs K t Γ M [.scr (ns.map .int), .int k]) (hk : 0 ≤ k) {Φ : Mem → D → Prop} (hr : ∀ i, Φ M (.v (.int i))) : EV K (tCall (S_law_cell K) [] E t) Γ M Φ :=
  ev_call (ea_ep hh ⟨(ns, k), rfl, hk, fun p ⟨i, e⟩ => by subst e; exact hr i⟩)
/-! the box -/
abbrev Rbox (cs : List MC) (d : D) : Prop := ∃ c, cs = [c] ∧ Bx 0 c ∧ d = .c 0
abbrev S_law_box (K : PySem.W.Frag) : Sp := PC K (fun i : Int => [.int i]) (fun _ => True) (fun _ => Rbox)
theorem pl_law_box (i : Int) : SV K 0 (t__law_box K) (startE 1 [.v (.int i)]) [] { nx := fun _ _ => False, rt := fun M d => Rbox M d } := by
  unfold t__law_box
  apply sv_ret; apply ev_cell; apply en_lst; apply ea_ep
  · apply eps_cons; trivial; apply eps_cons; (apply ep_op; trivial; (apply ep_op; trivial; trivial; exact rv_ic ⟨by decide, by decide, by decide⟩); exact rv_ib); apply eps_cons; (apply ep_op; (apply ep_cb; apply eps_cons; trivial; exact eps_nil; exact rc_int); trivial; exact rv_ic (by decide)); apply eps_cons; trivial; exact eps_nil
  · refine ⟨Nat.le_of_ble_eq_true rfl, _, rfl, ⟨_, _, _, _, rfl, ?_, ?_, ?_, by decide, by decide⟩, rfl⟩
    · split <;> omega
    · exact Int.emod_nonneg _ (by decide)
    · exact Int.lt_of_lt_of_le (Int.emod_lt_of_pos _ (by decide)) (by decide)
abbrev S_law_take (K : PySem.W.Frag) : Sp := BF K (fun m : Int => [.int m]) (fun m => 0 < m ∧ m < 1073741824) (fun _ => 1) (fun m r => ∃ i, 0 ≤ i ∧ i < m ∧ r = .int i)
theorem pl_law_take (m : Int) (n : Nat) (c : MC) (hm : 0 < m ∧ m < 1073741824) (hb : Bx n c) (hn : n + 1 ≤ 1000000000) : SV K 1 (t__law_take K) (startE 4 [.c 0, .v (.int m)]) [c]
    { nx := fun _ M => (∃ i, 0 ≤ i ∧ i < m ∧ P.non = .int i) ∧ ∃ c' M', M = c' :: M' ∧ Bx (n + 1) c', rt := fun M d => ∃ p, Fz 1 M d p ∧ (∃ i, 0 ≤ i ∧ i < m ∧ p = .int i) ∧ ∃ c' M', M = c' :: M' ∧ Bx (n + 1) c' } := by
  obtain ⟨a, g, x, d, rfl, ha, hx0, hx1, hd0, hd1⟩ := hb
  unfold t__law_take
  have hmod : ∀ y : Int, 0 ≤ y % m ∧ y % m < m := fun y => ⟨Int.emod_nonneg _ (by omega), Int.emod_lt_of_pos _ hm.1⟩
  have tst : EB K (tAnd (tB (tOp (rIx K) (tVar 0) (tC (.int 1)))) (tTest (tOp (rI0 fun i j => .bl (decide (j < i))) (tOp (rIx K) (tVar 0) (tC (.int 0))) (tC (.int 0))))) (startE 4 [.c 0, .v (.int m)]) [.l [.v (.int a), .v (.bl g), .v (.int x), .v (.int d)]] (g && decide (0 < a)) := by
    apply eb_and; trivial; intro _; trivial
  apply sv_seq; apply sv_ifB tst
  · intro hg
    apply sv_seq; apply sv_set; (apply ep_op; (apply ep_cb; apply eps_cons; trivial; exact eps_nil; exact rc_int); trivial; exact rv_ic hm.1)
    apply sv_seq; apply sv_setitem; apply ev_ep; (apply ep_op; trivial; trivial; exact rv_ic hm)
    apply ev_var rfl; refine ⟨0, rfl, ?_⟩
    apply ev_ep; trivial; refine ⟨0, 0, _, rfl, rfl, rfl, ?_⟩
    apply sv_retP; trivial
    have h1 : 0 ≤ a / m := Int.ediv_nonneg ha (Int.le_of_lt hm.1)
    exact ⟨_, .v _, ⟨_, (hmod a).1, (hmod a).2, rfl⟩, _, _, rfl, a / m, g, x, d, rfl, h1, hx0, hx1, hd0, by omega⟩
  · intro _
    apply sv_next
    apply sv_seq; apply sv_setitem; apply ev_ep; (apply ep_op; trivial; trivial; exact rv_plus_i)
    apply ev_var rfl; refine ⟨0, rfl, ?_⟩
    apply ev_ep; trivial; refine ⟨3, 3, _, rfl, rfl, rfl, ?_⟩
    have e0 : (x + 15487481 * (d + 1) + 179426373).natAbs < 2 ^ 64 := by omega
    apply sv_seq; apply sv_set
    · apply ep_op
      · apply ep_cb; apply eps_cons
        · apply ep_op
          · apply ep_op
            · apply ep_op; trivial; (apply ep_op; trivial; trivial; exact rv_ic (.inl ⟨by decide, by decide⟩)); exact rv_plus_i
            · trivial
            · exact rv_plus_i
          · trivial
          · exact rv_ic ⟨by decide, by decide, e0⟩
        · exact eps_nil
        · exact rc_int
      · trivial
      · exact rv_ic (by decide)
    have y0 : 0 ≤ ((x + 15487481 * (d + 1) + 179426373) ^ (5 : Int).toNat % 2147483647) := Int.emod_nonneg _ (by decide)
    have y1 : ((x + 15487481 * (d + 1) + 179426373) ^ (5 : Int).toNat % 2147483647) < 2147483647 := Int.emod_lt_of_pos _ (by decide)
    generalize hy : ((x + 15487481 * (d + 1) + 179426373) ^ (5 : Int).toNat % 2147483647) = y at y0 y1 ⊢
    have e1 : (y * 48271 + 9059 * (d + 1)).natAbs < 2 ^ 64 := by omega
    apply sv_retP
    · apply ep_op
      · apply ep_cb; apply eps_cons
        · apply ep_op
          · apply ep_op
            · apply ep_cb; apply eps_cons
              · apply ep_op
                · apply ep_op; (apply ep_op; trivial; trivial; exact rv_ic (.inr ⟨by decide, by decide⟩)); (apply ep_op; trivial; trivial; exact rv_ic (.inl ⟨by decide, by decide⟩)); exact rv_plus_i
                · trivial
                · exact rv_ic ⟨by decide, by decide, e1⟩
              · exact eps_nil
              · exact rc_int
            · trivial
            · exact rv_ic (by decide)
          · trivial
          · exact rv_ic ⟨by decide, by decide⟩
        · exact eps_nil
        · exact rc_int
      · trivial
      · exact rv_ic hm.1
    · exact ⟨_, .v _, ⟨_, (hmod _).1, (hmod _).2, rfl⟩, _, _, rfl, a, g, x, d + 1, rfl, ha, hx0, hx1, by omega, by omega⟩
end
end R35
set_option maxRecDepth 100000
set_option maxHeartbeats 4000000
namespace R35
open PySem PySem.Spec PyProof.Rows L2 Z
theorem erase_perm {α : Type} {l : List α} {i : Nat} (h : i < l.length) : (l[i] :: l.eraseIdx i).Perm l := by
  rw [List.eraseIdx_eq_take_drop_succ]
  have e : l.take i ++ l[i] :: l.drop (i + 1) = l := by rw [List.getElem_cons_drop, List.take_append_drop]
  exact (List.perm_middle.symm).trans (by rw [e])
theorem map_erase {α β : Type} {f : α → β} : ∀ (l : List α) (i : Nat), (l.map f).eraseIdx i = (l.eraseIdx i).map f
  | [], _ => rfl
  | _ :: _, 0 => rfl
  | x :: l, i + 1 => congrArg (f x :: ·) (map_erase l i)
theorem ep_lc0 {K : PySem.W.Frag} {wi : TI} {g : TG} {tt : TT} {te : TE} {vs : List Nat} {Γ : Z.Env} {M : Mem} {items : List P} (hT : Tgt vs g) (hi : EIp K wi Γ M items) (hl : items.length ≤ 99999)
    (h : ∀ (i : Nat) (p : P), items[i]? = some p → GV K g p (wipeE Γ vs) M fun Γ2 => EB K tt Γ2 M false) : Z.EP K (tLc wi g tt te vs) Γ M (.lst []) := by
  have e := ep_lcm (te := te) hT hi hl (fun _ => false) id fun i p hp => (h i p hp).imp fun Γ2 f => ⟨f, fun z => by cases z⟩
  have e2 : (items.filter fun _ => false).map (id : P → P) = [] := by
    rw [List.filter_eq_nil_iff.mpr (fun _ _ => by simp)]
    rfl
  rwa [e2] at e
section
variable {K : PySem.W.Frag} {Γ : Z.Env} {M : Mem} {E : XK} {t : TA} {a b c d i j h k : Int} {r : Bool} {p q : P} {ps qs : List P} {te : TE} {w : Str}
local macro_rules | `(tactic| get_elem_tactic_trivial) => `(tactic| first
  | exact rv_plus_i | exact rv_ii | exact rv_ib | exact rv_eq_ii | exact rv_ne_ii | exact rv_eq_ss | exact rv_ne_ss | exact rv_eq_bb | exact rv_ne_bb | exact rv_ixT rfl | exact rv_ixL rfl
  | exact rv_plus_t (Nat.le_of_ble_eq_true rfl) | exact rv_plus_l (Nat.le_of_ble_eq_true rfl) | exact rv_plus_s (Nat.le_of_ble_eq_true rfl) | exact rv_isB | exact rv_inL rfl rfl | exact rv_inT rfl rfl | exact rv_ic (by decide))
local macro_rules | `(tactic| decreasing_trivial) => `(tactic| first
  | exact rc_len rfl | exact rc_int | exact rc_intB | exact rc_abs | exact rc_tupleL | exact rc_tupleT | exact rc_list rfl | exact rc_max2 | exact rc_min2)
local macro_rules | `(tactic| trivial) => `(tactic| first
  | exact ep_int | exact ep_str | exact ep_bl | exact ep_non
  | exact ep_var rfl
  | (apply ep_op; trivial; trivial; get_elem_tactic_trivial)
  | (apply ep_cb; trivial; decreasing_trivial)
  | (apply ep_andF; trivial; rfl)
  | (apply ep_andV; trivial; intro _; trivial)
  | (apply ep_orT; trivial; rfl)
  | (apply ep_orV; trivial; intro _; trivial)
  | (apply ep_notV; trivial)
  | (apply ep_isN; trivial) | (apply ep_notN; trivial)
  | (apply ep_un; trivial; exact ru_i)
  | (apply ep_tup; trivial; exact Nat.le_of_ble_eq_true rfl) | (apply ep_lst; trivial; exact Nat.le_of_ble_eq_true rfl)
  | (apply ep_chain; trivial; trivial; get_elem_tactic_trivial; intro _; trivial; intro _; get_elem_tactic_trivial)
  | exact eps_nil | (apply eps_cons; trivial; trivial) | (apply eps_star; trivial; rfl; trivial)
  | (apply ef_ep; trivial)
  | (apply eb_B; trivial) | (apply eb_test; trivial)
  | (apply eb_andF; trivial; rfl)
  | (apply eb_and; trivial; intro _; trivial)
  | (apply eb_orT; trivial; rfl)
  | (apply eb_or; trivial; intro _; trivial)
  | (apply eb_not; trivial)
  | (apply ep_ifT; trivial; rfl; trivial) | (apply ep_ifF; trivial; rfl; trivial)
  | (apply ep_ifI; trivial; intro _; trivial; intro _; trivial) | (apply ep_ifL; trivial; intro _; trivial; intro _; trivial)
  | (apply ep_isi_int; trivial; first | rfl | assumption) | (apply ep_isi_bool; trivial; first | rfl | assumption) | (apply ep_isi_tuple; trivial; first | rfl | assumption) | (apply ep_isi_str; trivial; first | rfl | assumption)
  | (apply ep_isi_list; trivial; first | rfl | assumption) | (apply ep_isi_lt; trivial; first | rfl | assumption))
local macro_rules | `(tactic| trivial) => `(tactic| (apply ca_is_integer; trivial; first | rfl | assumption))
local macro_rules | `(tactic| trivial) => `(tactic| (apply ca_is_count; trivial))
local macro_rules | `(tactic| trivial) => `(tactic| (apply ca_is_between; trivial; first | rfl | assumption))
local macro_rules | `(tactic| trivial) => `(tactic| (apply ca_is_color; trivial; first | rfl | assumption))
local macro_rules | `(tactic| trivial) => `(tactic| (apply ca_other_color; trivial))
abbrev sqP : Bool → List P → P
  | true, ps => .tup ps | false, ps => .lst ps
abbrev S_law_pick (K : PySem.W.Frag) : Sp := BF K (fun x : Bool × List P => [sqP x.1 x.2]) (fun x => 0 < x.2.length ∧ x.2.length < 100000) (fun _ => 1) (fun x r => r ∈ x.2)
theorem pl_law_pick (b : Bool) (ps : List P) (n : Nat) (c : MC) (hl : 0 < ps.length ∧ ps.length < 100000) (hb : Bx n c) (hn : n + 1 ≤ 1000000000) : SV K 1 (t__law_pick K (S_law_take K)) (startE 2 [.c 0, .v (sqP b ps)]) [c]
    { nx := fun _ M => P.non ∈ ps ∧ ∃ c' M', M = c' :: M' ∧ Bx (n + 1) c', rt := fun M d => ∃ p, Fz 1 M d p ∧ p ∈ ps ∧ ∃ c' M', M = c' :: M' ∧ Bx (n + 1) c' } := by
  unfold t__law_pick
  have hlen : lenP (sqP b ps) = some ps.length := by cases b <;> rfl
  apply sv_ret; apply ev_op; apply ev_var rfl; refine ⟨_, rfl, ?_⟩
  refine ev_bx rfl (eps_cons (ep_cb (eps_cons (ep_var rfl) eps_nil) (rc_len hlen)) eps_nil) rfl hb ((ps.length : Nat) : Int) rfl (by omega) hn ?_
  rintro p c' ⟨i, i0, i1, rfl⟩ hb'
  have hj : ps[i.toNat]? = some (ps[i.toNat]'(by omega)) := List.getElem?_eq_getElem _
  have hi : atI ps i = some (ps[i.toNat]'(by omega)) := by
    have e := atI_nat hj
    rwa [Int.toNat_of_nonneg i0] at e
  refine ⟨_, rfl, _, by cases b <;> first | exact rv_ixL hi | exact rv_ixT hi, _, .v _, List.mem_of_getElem? hj, c', [], rfl, hb'⟩
abbrev S_law_whole (K : PySem.W.Frag) : Sp := PF K (fun p : P => [p]) (fun p => isInsP p = none) (fun p r => r = .bl (pI p && !pB p))
theorem pl_law_whole (p : P) (hp : isInsP p = none) : SV K 0 (t__law_whole K) (startE 1 [.v p]) [] (DR (· = .bl (pI p && !pB p))) := by
  unfold t__law_whole
  apply sv_retP; trivial; exact fz_is rfl
theorem ca_law_whole (hh : EPs K t Γ M [p]) (hn : isInsP p = none) : Z.EP K (tCall (S_law_whole K) [] E t) Γ M (.bl (pI p && !pB p)) := ep_call hh p rfl hn (fun _ h => h)
/-! what is given is what is due -/
mutual
def okq : Nat → P → Bool
  | _, .non => true | _, .bl _ => true | _, .int _ => true | _, .str s => decide (s.cps.size < 1000)
  | n + 1, .tup ds => decide (ds.length < 1000) && okqs n ds
  | n + 1, .lst ds => decide (ds.length < 1000) && okqs n ds
  | _, _ => false
def okqs : Nat → List P → Bool
  | _, [] => true
  | n, p :: ps => okq n p && okqs n ps
end
theorem okqs_at {n : Nat} : ∀ {ps : List P} {i : Nat} {p : P}, okqs n ps = true → ps[i]? = some p → okq n p = true
  | [], _, _, _, h => by simp at h
  | p :: ps, 0, q, h, e => by
    have h1 : (okq n p && okqs n ps) = true := by simpa [okqs] using h
    rw [Bool.and_eq_true] at h1
    simp at e
    subst e
    exact h1.1
  | p :: ps, i + 1, q, h, e => by
    have h1 : (okq n p && okqs n ps) = true := by simpa [okqs] using h
    rw [Bool.and_eq_true] at h1
    exact okqs_at h1.2 (by simpa using e)
abbrev S_law_is (K : PySem.W.Frag) (n : Nat) : Sp := PF K (fun p : P => [p, p]) (fun p => okq n p = true) (fun _ r => r = .bl true)
theorem ca_law_is {n : Nat} (hh : EPs K t Γ M [p, q]) (e : p = q) (ho : okq n p = true) : Z.EP K (tCall (S_law_is K n) [] E t) Γ M (.bl true) := ep_call hh p (by rw [e]) ho (fun _ h => h)
theorem ce_law_is {n : Nat} (hh : EFs K t Γ M [p, q]) (e : p = q) (ho : okq n p = true) : Z.EP K (tCall (S_law_is K n) [] E t) Γ M (.bl true) := ef_call hh p (by rw [e]) ho (fun _ h => h) rfl
theorem cut_one {s : Str} {i : Nat} {x : Nat} (h : s.cps.toList[i]? = some x) : cutS s (some (i : Int)) (some ((i : Int) + 1)) = ⟨#[x]⟩ := by
  have hi : i < s.cps.toList.length := (List.getElem?_eq_some_iff.mp h).1
  have hl : s.length = s.cps.toList.length := by simp [Str.length]
  unfold cutS
  rw [hl, show ((i : Int) + 1) = ((i + 1 : Nat) : Int) by omega, HT.sIx_nat, HT.sIx_nat, Nat.min_eq_left (by omega), Nat.min_eq_left (by omega), show i + 1 - i = 1 by omega, List.drop_eq_getElem_cons hi]
  have hx : s.cps.toList[i] = x := (List.getElem?_eq_some_iff.mp h).2
  rw [hx]
  rfl
theorem rangeP_at {lo : Int} {n i : Nat} {p : P} (h : (rangeP lo n)[i]? = some p) : i < n ∧ p = .int (lo + (i : Nat)) := by
  have hi := (List.getElem?_eq_some_iff.mp h).1
  rw [rangeP_len] at hi
  rw [rangeP_get hi] at h
  exact ⟨hi, (Option.some.inj h).symm⟩
theorem pl_law_is (n : Nat) (p : P) (hp : okq (n + 1) p = true) : SV K 0 (t__law_is K (S_law_whole K) (S_law_is K n)) (startE 3 [.v p, .v p]) [] (DR (· = .bl true)) := by
  unfold t__law_is
  cases p with
  | non => apply sv_seq; apply sv_ifT; trivial; rfl; apply sv_retP; trivial; exact fz_is rfl
  | bl b =>
    apply sv_seq; apply sv_ifT; (apply eb_or; trivial; intro _; trivial); rfl; apply sv_retP
    · apply ep_ifF; trivial; rfl; apply ep_andV; trivial; intro _; apply ep_op; trivial; trivial; exact rv_eq_bb
    · apply fz_is; cases b <;> rfl
  | int i =>
    apply sv_seq; apply sv_ifF; trivial; rfl; apply sv_next; apply sv_seq; apply sv_ifT; trivial; rfl; apply sv_retP
    · apply ep_andV; (apply ca_law_whole; trivial; rfl); intro _; trivial
    · apply fz_is
      show P.bl (true && decide (i - i = 0)) = .bl true
      rw [Int.sub_self]
      rfl
  | str s =>
    have hs : s.cps.size < 1000 := by simpa [okq] using hp
    have hs2 : s.length = s.cps.size := rfl
    have hs3 : s.length ≤ sizeLine := by rw [hs2]; exact Nat.le_trans (Nat.le_of_lt hs) (by decide)
    have hlp : lenP (.str s) = some s.length := if_pos hs3
    apply sv_seq; apply sv_ifF; trivial; rfl; apply sv_next; apply sv_seq; apply sv_ifF; trivial; rfl; apply sv_next; apply sv_seq; apply sv_ifT; trivial; rfl; apply sv_retP
    · apply ep_andV; trivial; intro _; apply ep_andV
      · apply ep_op; (apply ep_cb; trivial; exact rc_len (n := s.length) hlp); (apply ep_cb; trivial; exact rc_len (n := s.length) hlp); exact rv_eq_ii
      · intro _
        apply ep_op
        · refine ep_lc0 (tgt_name (by decide)) (eip_range1 (eps_cons (ep_cb (eps_cons (ep_var rfl) eps_nil) (rc_len (n := s.length) hlp)) eps_nil) (by omega) (by omega)) (by rw [rangeP_len, Int.toNat_natCast]; omega) ?_
          intro i q hq
          rw [Int.toNat_natCast] at hq
          obtain ⟨hi, rfl⟩ := rangeP_at hq
          rw [Int.zero_add]
          apply gv_name
          have hx : s.cps.toList[i]? = some (s.cps.toList[i]'(by simpa [hs2] using hi)) := List.getElem?_eq_getElem _
          refine eb_is (eb_test (ep_op (ep_sl (ep_var rfl) (eo_some (ep_var rfl)) (eo_some (ep_op (ep_var rfl) ep_int rv_plus_i)) (slv_s hs3)) (ep_op (ep_var rfl) (ep_var rfl) (rv_ixS hs3 (atI_nat hx))) rv_ne_ss)) ?_
          rw [cut_one hx]
          simp
        · trivial
        · exact rv_eq_d (n := 4) rfl rfl (by decide)
    · apply fz_is
      rw [decide_eq_true (rfl : ((s.length : Nat) : Int) = ((s.length : Nat) : Int))]
      rfl
  | tup ds =>
    have hp2 : (decide (ds.length < 1000) && okqs n ds) = true := by simpa [okq] using hp
    rw [Bool.and_eq_true, decide_eq_true_eq] at hp2
    obtain ⟨hl, ho⟩ := hp2
    apply sv_seq; apply sv_ifF; trivial; rfl; apply sv_next; apply sv_seq; apply sv_ifF; trivial; rfl; apply sv_next; apply sv_seq; apply sv_ifF; trivial; rfl; apply sv_next; apply sv_seq; apply sv_ifF
    · apply eb_or; trivial; intro _; apply eb_or; trivial; intro _; trivial
    · rfl
    apply sv_next; apply sv_retP
    · apply ep_andV
      · apply ep_op; (apply ep_cb; trivial; exact rc_len (n := ds.length) rfl); (apply ep_cb; trivial; exact rc_len (n := ds.length) rfl); exact rv_eq_ii
      · intro _
        apply ep_op
        · refine ep_lc0 (tgt_name (by decide)) (eip_range1 (eps_cons (ep_cb (eps_cons (ep_var rfl) eps_nil) (rc_len (n := ds.length) rfl)) eps_nil) (by omega) (by omega)) (by rw [rangeP_len, Int.toNat_natCast]; omega) ?_
          intro i q hq
          rw [Int.toNat_natCast] at hq
          obtain ⟨hi, rfl⟩ := rangeP_at hq
          rw [Int.zero_add]
          apply gv_name
          have hx : ds[i]? = some (ds[i]'hi) := List.getElem?_eq_getElem _
          exact eb_not (eb_B (ca_law_is (eps_cons (ep_op (ep_var rfl) (ep_var rfl) (rv_ixT (atI_nat hx))) (eps_cons (ep_op (ep_var rfl) (ep_var rfl) (rv_ixT (atI_nat hx))) eps_nil)) rfl (okqs_at ho hx)))
        · trivial
        · exact rv_eq_d (n := 4) rfl rfl (by decide)
    · apply fz_is
      rw [decide_eq_true (rfl : ((ds.length : Nat) : Int) = ((ds.length : Nat) : Int))]
      rfl
  | lst ds =>
    have hp2 : (decide (ds.length < 1000) && okqs n ds) = true := by simpa [okq] using hp
    rw [Bool.and_eq_true, decide_eq_true_eq] at hp2
    obtain ⟨hl, ho⟩ := hp2
    apply sv_seq; apply sv_ifF; trivial; rfl; apply sv_next; apply sv_seq; apply sv_ifF; trivial; rfl; apply sv_next; apply sv_seq; apply sv_ifF; trivial; rfl; apply sv_next; apply sv_seq; apply sv_ifF
    · apply eb_or; trivial; intro _; apply eb_or; trivial; intro _; trivial
    · rfl
    apply sv_next; apply sv_retP
    · apply ep_andV
      · apply ep_op; (apply ep_cb; trivial; exact rc_len (n := ds.length) rfl); (apply ep_cb; trivial; exact rc_len (n := ds.length) rfl); exact rv_eq_ii
      · intro _
        apply ep_op
        · refine ep_lc0 (tgt_name (by decide)) (eip_range1 (eps_cons (ep_cb (eps_cons (ep_var rfl) eps_nil) (rc_len (n := ds.length) rfl)) eps_nil) (by omega) (by omega)) (by rw [rangeP_len, Int.toNat_natCast]; omega) ?_
          intro i q hq
          rw [Int.toNat_natCast] at hq
          obtain ⟨hi, rfl⟩ := rangeP_at hq
          rw [Int.zero_add]
          apply gv_name
          have hx : ds[i]? = some (ds[i]'hi) := List.getElem?_eq_getElem _
          exact eb_not (eb_B (ca_law_is (eps_cons (ep_op (ep_var rfl) (ep_var rfl) (rv_ixL (atI_nat hx))) (eps_cons (ep_op (ep_var rfl) (ep_var rfl) (rv_ixL (atI_nat hx))) eps_nil)) rfl (okqs_at ho hx)))
        · trivial
        · exact rv_eq_d (n := 4) rfl rfl (by decide)
    · apply fz_is
      rw [decide_eq_true (rfl : ((ds.length : Nat) : Int) = ((ds.length : Nat) : Int))]
      rfl
  | scr ds => cases hp
  | ins C ks ds => cases hp
theorem pl_law_is0 (sp : Sp) (p : P) (hp : okq 0 p = true) : SV K 0 (t__law_is K (S_law_whole K) sp) (startE 3 [.v p, .v p]) [] (DR (· = .bl true)) := by
  unfold t__law_is
  cases p with
  | non => apply sv_seq; apply sv_ifT; trivial; rfl; apply sv_retP; trivial; exact fz_is rfl
  | bl b =>
    apply sv_seq; apply sv_ifT; (apply eb_or; trivial; intro _; trivial); rfl; apply sv_retP
    · apply ep_ifF; trivial; rfl; apply ep_andV; trivial; intro _; apply ep_op; trivial; trivial; exact rv_eq_bb
    · apply fz_is; cases b <;> rfl
  | int i =>
    apply sv_seq; apply sv_ifF; trivial; rfl; apply sv_next; apply sv_seq; apply sv_ifT; trivial; rfl; apply sv_retP
    · apply ep_andV; (apply ca_law_whole; trivial; rfl); intro _; trivial
    · apply fz_is
      show P.bl (true && decide (i - i = 0)) = .bl true
      rw [Int.sub_self]
      rfl
  | str s =>
    have hs : s.cps.size < 1000 := by simpa [okq] using hp
    have hs2 : s.length = s.cps.size := rfl
    have hs3 : s.length ≤ sizeLine := by rw [hs2]; exact Nat.le_trans (Nat.le_of_lt hs) (by decide)
    have hlp : lenP (.str s) = some s.length := if_pos hs3
    apply sv_seq; apply sv_ifF; trivial; rfl; apply sv_next; apply sv_seq; apply sv_ifF; trivial; rfl; apply sv_next; apply sv_seq; apply sv_ifT; trivial; rfl; apply sv_retP
    · apply ep_andV; trivial; intro _; apply ep_andV
      · apply ep_op; (apply ep_cb; trivial; exact rc_len (n := s.length) hlp); (apply ep_cb; trivial; exact rc_len (n := s.length) hlp); exact rv_eq_ii
      · intro _
        apply ep_op
        · refine ep_lc0 (tgt_name (by decide)) (eip_range1 (eps_cons (ep_cb (eps_cons (ep_var rfl) eps_nil) (rc_len (n := s.length) hlp)) eps_nil) (by omega) (by omega)) (by rw [rangeP_len, Int.toNat_natCast]; omega) ?_
          intro i q hq
          rw [Int.toNat_natCast] at hq
          obtain ⟨hi, rfl⟩ := rangeP_at hq
          rw [Int.zero_add]
          apply gv_name
          have hx : s.cps.toList[i]? = some (s.cps.toList[i]'(by simpa [hs2] using hi)) := List.getElem?_eq_getElem _
          refine eb_is (eb_test (ep_op (ep_sl (ep_var rfl) (eo_some (ep_var rfl)) (eo_some (ep_op (ep_var rfl) ep_int rv_plus_i)) (slv_s hs3)) (ep_op (ep_var rfl) (ep_var rfl) (rv_ixS hs3 (atI_nat hx))) rv_ne_ss)) ?_
          rw [cut_one hx]
          simp
        · trivial
        · exact rv_eq_d (n := 4) rfl rfl (by decide)
    · apply fz_is
      rw [decide_eq_true (rfl : ((s.length : Nat) : Int) = ((s.length : Nat) : Int))]
      rfl
  | tup ds => cases hp
  | lst ds => cases hp
  | scr ds => cases hp
  | ins C ks ds => cases hp
end
end R35
set_option maxRecDepth 100000
set_option maxHeartbeats 4000000
namespace R35
open PySem PySem.Spec PyProof.Rows L2 Z
/-- facts about the class -/
structure Kf (K : PySem.W.Frag) : Prop where
  ci : ClsI K (He.ga K "Race")
  cl : Cls K (He.ga K "Race")
  na1 : NoAttr K (He.ga K "Race") "black"
  na2 : NoAttr K (He.ga K "Race") "white"
  na3 : NoAttr K (He.ga K "Race") "shared"
  na4 : NoAttr K (He.ga K "Race") "black_eye"
  na5 : NoAttr K (He.ga K "Race") "white_eye"
  ki : PySem.W.kitOne K (.ref (He.ga K "Race")) (.ref (He.ga K "Race")) = some true
  ki1 : PySem.W.kitOne K (.type "int") (.ref (He.ga K "Race")) = some false
  ki2 : PySem.W.kitOne K (.type "NoneType") (.ref (He.ga K "Race")) = some false
  ki3 : PySem.W.kitOne K (.type "tuple") (.ref (He.ga K "Race")) = some false
  nf1 : PySem.W.notFirst K (He.ga K "Race") (.type "int") = true
  nf3 : PySem.W.notFirst K (He.ga K "Race") (.type "tuple") = true
/-- a race's numbers: outside liberties of black and white, shared ones, eyes of black and white -/
structure C5 where
  a : Int
  b : Int
  s : Int
  x : Int
  y : Int
abbrev flds : List Str := ["black", "white", "shared", "black_eye", "white_eye"]
abbrev iP5 (n : C5) : List P := [.int n.a, .int n.b, .int n.s, .int n.x, .int n.y]
abbrev nP (n : C5) : P := .tup (iP5 n)
abbrev rP (K : PySem.W.Frag) (n : C5) : P := .ins (He.ga K "Race") flds (iP5 n)
structure wfN (n : C5) : Prop where
  a : 0 ≤ n.a
  b : 0 ≤ n.b
  s : 0 ≤ n.s
  x : 0 ≤ n.x
  y : 0 ≤ n.y
  l1 : 0 < n.a + n.s + n.x
  l2 : 0 < n.b + n.s + n.y
def oc (n : C5) (k : Int) : Int := if k = 1 then n.a else n.b
def ey (n : C5) (k : Int) : Int := if k = 1 then n.x else n.y
def lib (n : C5) (k : Int) : Int := oc n k + n.s + ey n k
section
variable {K : PySem.W.Frag} {Γ : Z.Env} {M : Mem} {E : XK} {t : TA} {a b c d e i j h k : Int} {r : Bool} {p q : P} {ps qs : List P} {te : TE}
local macro_rules | `(tactic| get_elem_tactic_trivial) => `(tactic| first
  | exact rv_plus_i | exact rv_ii | exact rv_ib | exact rv_eq_ii | exact rv_ne_ii | exact rv_eq_ss | exact rv_ne_ss | exact rv_eq_bb | exact rv_ne_bb | exact rv_ixT rfl | exact rv_ixL rfl
  | exact rv_plus_t (Nat.le_of_ble_eq_true rfl) | exact rv_plus_l (Nat.le_of_ble_eq_true rfl) | exact rv_plus_s (Nat.le_of_ble_eq_true rfl) | exact rv_isB | exact rv_inL rfl rfl | exact rv_inT rfl rfl | exact rv_ic (by decide))
local macro_rules | `(tactic| decreasing_trivial) => `(tactic| first
  | exact rc_len rfl | exact rc_int | exact rc_intB | exact rc_abs | exact rc_tupleL | exact rc_tupleT | exact rc_list rfl | exact rc_max2 | exact rc_min2)
local macro_rules | `(tactic| trivial) => `(tactic| first
  | exact ep_int | exact ep_str | exact ep_bl | exact ep_non
  | exact ep_var rfl
  | (apply ep_op; trivial; trivial; get_elem_tactic_trivial)
  | (apply ep_cb; trivial; decreasing_trivial)
  | (apply ep_andF; trivial; rfl)
  | (apply ep_andV; trivial; intro _; trivial)
  | (apply ep_orT; trivial; rfl)
  | (apply ep_orV; trivial; intro _; trivial)
  | (apply ep_notV; trivial)
  | (apply ep_isN; trivial) | (apply ep_notN; trivial)
  | (apply ep_un; trivial; exact ru_i)
  | (apply ep_tup; trivial; exact Nat.le_of_ble_eq_true rfl) | (apply ep_lst; trivial; exact Nat.le_of_ble_eq_true rfl)
  | (apply ep_chain; trivial; trivial; get_elem_tactic_trivial; intro _; trivial; intro _; get_elem_tactic_trivial)
  | exact eps_nil | (apply eps_cons; trivial; trivial) | (apply eps_star; trivial; rfl; trivial)
  | (apply ef_ep; trivial)
  | (apply eb_B; trivial) | (apply eb_test; trivial)
  | (apply eb_andF; trivial; rfl)
  | (apply eb_and; trivial; intro _; trivial)
  | (apply eb_orT; trivial; rfl)
  | (apply eb_or; trivial; intro _; trivial)
  | (apply eb_not; trivial)
  | (apply ep_ifT; trivial; rfl; trivial) | (apply ep_ifF; trivial; rfl; trivial)
  | (apply ep_ifI; trivial; intro _; trivial; intro _; trivial) | (apply ep_ifL; trivial; intro _; trivial; intro _; trivial)
  | (apply ep_isi_int; trivial; first | rfl | assumption) | (apply ep_isi_bool; trivial; first | rfl | assumption) | (apply ep_isi_tuple; trivial; first | rfl | assumption) | (apply ep_isi_str; trivial; first | rfl | assumption)
  | (apply ep_isi_list; trivial; first | rfl | assumption) | (apply ep_isi_lt; trivial; first | rfl | assumption))
local macro_rules | `(tactic| trivial) => `(tactic| (apply ca_is_integer; trivial; first | rfl | assumption))
local macro_rules | `(tactic| trivial) => `(tactic| (apply ca_is_count; trivial))
local macro_rules | `(tactic| trivial) => `(tactic| (apply ca_is_between; trivial; first | rfl | assumption))
local macro_rules | `(tactic| trivial) => `(tactic| (apply ca_is_color; trivial; first | rfl | assumption))
local macro_rules | `(tactic| trivial) => `(tactic| (apply ca_other_color; trivial))
abbrev SRace__init__ (K : PySem.W.Frag) : Sp := MF K (He.ga K "Race") iP5 wfN flds iP5
theorem pl_Race__init__ (kf : Kf K) (n : C5) (w : wfN n) : SV K 1 (t_Race__init__ K (Sis_count K)) (startE 6 [.c 0, .v (.int n.a), .v (.int n.b), .v (.int n.s), .v (.int n.x), .v (.int n.y)]) [.o (He.ga K "Race") [] []]
    { nx := fun _ M => ∃ M', M = .o (He.ga K "Race") flds ((iP5 n).map .v) :: M', rt := fun _ _ => False } := by
  unfold t_Race__init__
  obtain ⟨w1, w2, w3, w4, w5, w6, w7⟩ := w
  have e1 : decide (0 ≤ n.a) = true := decide_eq_true (by omega)
  have e2 : decide (0 ≤ n.b) = true := decide_eq_true (by omega)
  have e3 : decide (0 ≤ n.s) = true := decide_eq_true (by omega)
  have e4 : decide (0 ≤ n.x) = true := decide_eq_true (by omega)
  have e5 : decide (0 ≤ n.y) = true := decide_eq_true (by omega)
  apply sv_seq; apply sv_ifF; trivial; (rw [e1]; rfl); apply sv_next
  apply sv_seq; apply sv_ifF; trivial; (rw [e2]; rfl); apply sv_next
  apply sv_seq; apply sv_ifF; trivial; (rw [e3]; rfl); apply sv_next
  apply sv_seq; apply sv_ifF; trivial; (rw [e4]; rfl); apply sv_next
  apply sv_seq; apply sv_ifF; trivial; (rw [e5]; rfl); apply sv_next
  apply sv_seq; apply sv_ifF; trivial; exact decide_eq_false (by omega); apply sv_next
  apply sv_seq; apply sv_ifF; trivial; exact decide_eq_false (by omega); apply sv_next
  apply sv_seq; apply sv_fldN; apply ev_ep; trivial; apply ev_var rfl; refine ⟨0, _, _, _, rfl, rfl, kf.cl, kf.na1, by decide, by decide, ?_⟩
  apply sv_seq; apply sv_fldN; apply ev_ep; trivial; apply ev_var rfl; refine ⟨0, _, _, _, rfl, rfl, kf.cl, kf.na2, by decide, by decide, ?_⟩
  apply sv_seq; apply sv_fldN; apply ev_ep; trivial; apply ev_var rfl; refine ⟨0, _, _, _, rfl, rfl, kf.cl, kf.na3, by decide, by decide, ?_⟩
  apply sv_seq; apply sv_fldN; apply ev_ep; trivial; apply ev_var rfl; refine ⟨0, _, _, _, rfl, rfl, kf.cl, kf.na4, by decide, by decide, ?_⟩
  apply sv_fldN; apply ev_ep; trivial; apply ev_var rfl; refine ⟨0, _, _, _, rfl, rfl, kf.cl, kf.na5, by decide, by decide, ?_⟩
  exact ⟨_, rfl⟩
theorem ca_Race (hh : EPs K t Γ M [.int a, .int b, .int c, .int d, .int e]) (w : wfN ⟨a, b, c, d, e⟩) : Z.EP K (tMake (He.ga K "Race") (SRace__init__ K) [] E t) Γ M (rP K ⟨a, b, c, d, e⟩) := ep_make hh (⟨a, b, c, d, e⟩ : C5) rfl w
abbrev Scounts_of (K : PySem.W.Frag) : Sp := PF K (fun n : C5 => [rP K n]) (fun _ => True) (fun n r => r = nP n)
theorem pl_counts_of (kf : Kf K) (n : C5) : SV K 0 (t_counts_of K) (startE 1 [.v (rP K n)]) [] (DR (· = nP n)) := by
  unfold t_counts_of
  apply sv_retP
  apply ep_tup
  apply eps_cons; (apply ep_fld (ep_var rfl) kf.cl kf.na1 rfl); apply eps_cons; (apply ep_fld (ep_var rfl) kf.cl kf.na2 rfl); apply eps_cons; (apply ep_fld (ep_var rfl) kf.cl kf.na3 rfl); apply eps_cons; (apply ep_fld (ep_var rfl) kf.cl kf.na4 rfl); apply eps_cons; (apply ep_fld (ep_var rfl) kf.cl kf.na5 rfl); exact eps_nil
  exact Nat.le_of_ble_eq_true rfl
  exact fz_is rfl
theorem ca_counts_of {n : C5} (hh : EPs K t Γ M [rP K n]) : Z.EP K (tCall (Scounts_of K) [] E t) Γ M (nP n) := ep_call hh n rfl True.intro (fun _ h => h)
local macro_rules | `(tactic| trivial) => `(tactic| (apply ca_counts_of; trivial))
inductive Ot where
  | f (n : C5) | i (i : Int) | t (ps : List P)
abbrev Ot.v (K : PySem.W.Frag) : Ot → P
  | .f m => rP K m | .i m => .int m | .t m => .tup m
def Ot.eq (n : C5) : Ot → Bool
  | .f m => pEq (nP n) (nP m) | _ => false
abbrev SRace__eq__ (K : PySem.W.Frag) : Sp := PF K (fun x : C5 × Ot => [rP K x.1, x.2.v K]) (fun _ => True) (fun x r => r = .bl (x.2.eq x.1))
theorem pl_Race__eq__ (kf : Kf K) (n : C5) (o : Ot) : SV K 0 (t_Race__eq__ K (Scounts_of K)) (startE 2 [.v (rP K n), .v (o.v K)]) [] (DR (· = .bl (o.eq n))) := by
  unfold t_Race__eq__
  have ic : ∀ q : P, (∀ C, isInsP q = some C → C = He.ga K "Race") → ∀ C, isInsP q = some C → ClsI K C := fun q h C e => by rw [h C e]; exact kf.ci
  cases o with
  | f m =>
    show SV K 0 (tRet _) (startE 2 [.v (rP K n), .v (rP K m)]) [] _
    apply sv_retP
    apply ep_andV; (apply ep_isi; (apply ef_ep; exact ep_var rfl); exact .own _; exact ic _ (fun C e => by cases e; rfl); exact kf.ki)
    intro _; apply ep_op; trivial; trivial; exact rv_eq_d (n := 8) rfl rfl (by decide)
    exact fz_is rfl
  | i m => show SV K 0 (tRet _) (startE 2 [.v (rP K n), .v (.int m)]) [] _; apply sv_retP; apply ep_andF; (apply ep_isi; (apply ef_ep; exact ep_var rfl); exact .own _; exact ic _ (fun C e => by cases e); exact kf.ki1); rfl; exact fz_is rfl
  | t m => show SV K 0 (tRet _) (startE 2 [.v (rP K n), .v (.tup m)]) [] _; apply sv_retP; apply ep_andF; (apply ep_isi; (apply ef_ep; exact ep_var rfl); exact .own _; exact ic _ (fun C e => by cases e); exact kf.ki3); rfl; exact fz_is rfl
abbrev Srace_with (K : PySem.W.Frag) : Sp := PF K (fun n : C5 => [nP n]) wfN (fun n r => r = rP K n)
theorem pl_race_with (n : C5) (w : wfN n) : SV K 0 (t_race_with K (SRace__init__ K)) (startE 6 [.v (nP n)]) [] (DR (· = rP K n)) := by
  unfold t_race_with
  apply sv_seq; apply sv_tup; trivial; apply gv_tup rfl
  apply gvs_cons; apply gv_name; apply gvs_cons; apply gv_name; apply gvs_cons; apply gv_name; apply gvs_cons; apply gv_name; apply gvs_cons; apply gv_name; apply gvs_nil
  apply sv_retP; apply ca_Race; trivial; exact w; exact fz_is rfl
theorem ca_race_with {n : C5} (hh : EPs K t Γ M [nP n]) (w : wfN n) : Z.EP K (tCall (Srace_with K) [] E t) Γ M (rP K n) := ep_call hh n rfl w (fun _ h => h)
abbrev Soutside_in (K : PySem.W.Frag) : Sp := PF K (fun x : C5 × Int => [nP x.1, .int x.2]) (fun x => x.2 = 1 ∨ x.2 = 2) (fun x r => r = .int (oc x.1 x.2))
theorem pl_outside_in (n : C5) (k : Int) (hk : k = 1 ∨ k = 2) : SV K 0 (t_outside_in K) (startE 2 [.v (nP n), .v (.int k)]) [] (DR (· = .int (oc n k))) := by
  unfold t_outside_in
  rcases hk with rfl | rfl <;> (apply sv_retP; trivial; exact fz_is rfl)
theorem ca_outside_in {n : C5} (hh : EPs K t Γ M [nP n, .int k]) (hk : k = 1 ∨ k = 2) : Z.EP K (tCall (Soutside_in K) [] E t) Γ M (.int (oc n k)) := ep_call hh (n, k) rfl hk (fun _ h => h)
local macro_rules | `(tactic| trivial) => `(tactic| (apply ca_outside_in; trivial; first | assumption | exact .inl rfl | exact .inr rfl))
abbrev Seye_in (K : PySem.W.Frag) : Sp := PF K (fun x : C5 × Int => [nP x.1, .int x.2]) (fun x => x.2 = 1 ∨ x.2 = 2) (fun x r => r = .int (ey x.1 x.2))
theorem pl_eye_in (n : C5) (k : Int) (hk : k = 1 ∨ k = 2) : SV K 0 (t_eye_in K) (startE 2 [.v (nP n), .v (.int k)]) [] (DR (· = .int (ey n k))) := by
  unfold t_eye_in
  rcases hk with rfl | rfl <;> (apply sv_retP; trivial; exact fz_is rfl)
theorem ca_eye_in {n : C5} (hh : EPs K t Γ M [nP n, .int k]) (hk : k = 1 ∨ k = 2) : Z.EP K (tCall (Seye_in K) [] E t) Γ M (.int (ey n k)) := ep_call hh (n, k) rfl hk (fun _ h => h)
local macro_rules | `(tactic| trivial) => `(tactic| (apply ca_eye_in; trivial; first | assumption | exact .inl rfl | exact .inr rfl))
abbrev Sliberties_in (K : PySem.W.Frag) : Sp := PF K (fun x : C5 × Int => [nP x.1, .int x.2]) (fun x => x.2 = 1 ∨ x.2 = 2) (fun x r => r = .int (lib x.1 x.2))
theorem pl_liberties_in (n : C5) (k : Int) (hk : k = 1 ∨ k = 2) : SV K 0 (t_liberties_in K (Soutside_in K) (Seye_in K)) (startE 2 [.v (nP n), .v (.int k)]) [] (DR (· = .int (lib n k))) := by
  unfold t_liberties_in
  apply sv_retP; trivial; exact fz_is rfl
theorem ca_liberties_in {n : C5} (hh : EPs K t Γ M [nP n, .int k]) (hk : k = 1 ∨ k = 2) : Z.EP K (tCall (Sliberties_in K) [] E t) Γ M (.int (lib n k)) := ep_call hh (n, k) rfl hk (fun _ h => h)
local macro_rules | `(tactic| trivial) => `(tactic| (apply ca_liberties_in; trivial; first | assumption | exact .inl rfl | exact .inr rfl))
abbrev Srace_liberties (K : PySem.W.Frag) : Sp := PF K (fun x : C5 × Int => [rP K x.1, .int x.2]) (fun x => x.2 = 1 ∨ x.2 = 2) (fun x r => r = .int (lib x.1 x.2))
theorem pl_race_liberties (n : C5) (k : Int) (hk : k = 1 ∨ k = 2) : SV K 0 (t_race_liberties K (Scheck_color K) (Sliberties_in K) (Scounts_of K)) (startE 2 [.v (rP K n), .v (.int k)]) [] (DR (· = .int (lib n k))) := by
  unfold t_race_liberties
  apply sv_seq; apply sv_drop; apply ev_ep; (apply ca_check_color; trivial; exact hk)
  apply sv_retP; trivial; exact fz_is rfl
end
end R35
set_option maxRecDepth 100000
set_option maxHeartbeats 4000000
namespace R35
open PySem PySem.Spec PyProof.Rows L2 Z
def mvO (n : C5) (k : Int) : List Str := if 0 < oc n (3 - k) then ["outside"] else []
def mvS (n : C5) (k : Int) : List Str := if 0 < n.s ∧ (lib n (3 - k) = 1 ∨ 1 < lib n k) then ["shared"] else []
def mvE (n : C5) (k : Int) : List Str := if 1 < ey n (3 - k) ∨ (ey n (3 - k) = 1 ∧ lib n (3 - k) = 1) then ["eye"] else []
def mv (n : C5) (k : Int) : List Str := mvO n k ++ mvS n k ++ mvE n k
def les (n : C5) (p : Int) : C5 := ⟨n.a - (if 0 = p then 1 else 0), n.b - (if 1 = p then 1 else 0), n.s - (if 2 = p then 1 else 0), n.x - (if 3 = p then 1 else 0), n.y - (if 4 = p then 1 else 0)⟩
def plc (k : Int) (w : Str) : Int := if w = "shared" then 2 else (1 + 2 - k) + (if w = "eye" then 2 else -1)
def bhd (n : C5) (k : Int) (w : Str) : C5 := les n (plc k w)
def need (n : C5) (k : Int) : Int := if ¬ (0 < ey n k ∨ 0 < ey n (3 - k)) then max (n.s - 1) 0 else if 0 < ey n k ∧ ¬ 0 < ey n (3 - k) then -n.s else n.s
def lead (n : C5) (k : Int) : Int := oc n k + ey n k - oc n (3 - k) - ey n (3 - k) - need n k
def rsl (n : C5) (f : Int) : Int := if 0 ≤ lead n f then f else if 1 ≤ lead n (3 - f) then 3 - f else 0
abbrev strD (l : List Str) : List D := l.map fun w => .v (.str w)
theorem e3 (k : Int) : 1 + 2 - k = 3 - k := rfl
section
variable {K : PySem.W.Frag} {Γ : Z.Env} {M : Mem} {E : XK} {t : TA} {a b c d e i j h k : Int} {r : Bool} {p q : P} {ps qs : List P} {te : TE} {n : C5} {w : Str} {Φ : Mem → D → Prop}
local macro_rules | `(tactic| get_elem_tactic_trivial) => `(tactic| first
  | exact rv_plus_i | exact rv_ii | exact rv_ib | exact rv_eq_ii | exact rv_ne_ii | exact rv_eq_ss | exact rv_ne_ss | exact rv_eq_bb | exact rv_ne_bb | exact rv_ixT rfl | exact rv_ixL rfl
  | exact rv_plus_t (Nat.le_of_ble_eq_true rfl) | exact rv_plus_l (Nat.le_of_ble_eq_true rfl) | exact rv_plus_s (Nat.le_of_ble_eq_true rfl) | exact rv_isB | exact rv_inL rfl rfl | exact rv_inT rfl rfl | exact rv_ic (by decide))
local macro_rules | `(tactic| decreasing_trivial) => `(tactic| first
  | exact rc_len rfl | exact rc_int | exact rc_intB | exact rc_abs | exact rc_tupleL | exact rc_tupleT | exact rc_list rfl | exact rc_max2 | exact rc_min2)
local macro_rules | `(tactic| trivial) => `(tactic| first
  | exact ep_int | exact ep_str | exact ep_bl | exact ep_non
  | exact ep_var rfl
  | (apply ep_op; trivial; trivial; get_elem_tactic_trivial)
  | (apply ep_cb; trivial; decreasing_trivial)
  | (apply ep_andF; trivial; rfl)
  | (apply ep_andV; trivial; intro _; trivial)
  | (apply ep_orT; trivial; rfl)
  | (apply ep_orV; trivial; intro _; trivial)
  | (apply ep_notV; trivial)
  | (apply ep_isN; trivial) | (apply ep_notN; trivial)
  | (apply ep_un; trivial; exact ru_i)
  | (apply ep_tup; trivial; exact Nat.le_of_ble_eq_true rfl) | (apply ep_lst; trivial; exact Nat.le_of_ble_eq_true rfl)
  | (apply ep_chain; trivial; trivial; get_elem_tactic_trivial; intro _; trivial; intro _; get_elem_tactic_trivial)
  | exact eps_nil | (apply eps_cons; trivial; trivial) | (apply eps_star; trivial; rfl; trivial)
  | (apply ef_ep; trivial)
  | (apply eb_B; trivial) | (apply eb_test; trivial)
  | (apply eb_andF; trivial; rfl)
  | (apply eb_and; trivial; intro _; trivial)
  | (apply eb_orT; trivial; rfl)
  | (apply eb_or; trivial; intro _; trivial)
  | (apply eb_not; trivial)
  | (apply ep_ifT; trivial; rfl; trivial) | (apply ep_ifF; trivial; rfl; trivial)
  | (apply ep_ifI; trivial; intro _; trivial; intro _; trivial) | (apply ep_ifL; trivial; intro _; trivial; intro _; trivial)
  | (apply ep_isi_int; trivial; first | rfl | assumption) | (apply ep_isi_bool; trivial; first | rfl | assumption) | (apply ep_isi_tuple; trivial; first | rfl | assumption) | (apply ep_isi_str; trivial; first | rfl | assumption)
  | (apply ep_isi_list; trivial; first | rfl | assumption) | (apply ep_isi_lt; trivial; first | rfl | assumption))
local macro_rules | `(tactic| trivial) => `(tactic| (apply ca_is_integer; trivial; first | rfl | assumption))
local macro_rules | `(tactic| trivial) => `(tactic| (apply ca_is_count; trivial))
local macro_rules | `(tactic| trivial) => `(tactic| (apply ca_is_between; trivial; first | rfl | assumption))
local macro_rules | `(tactic| trivial) => `(tactic| (apply ca_is_color; trivial; first | rfl | assumption))
local macro_rules | `(tactic| trivial) => `(tactic| (apply ca_other_color; trivial))
local macro_rules | `(tactic| trivial) => `(tactic| (apply ca_counts_of; trivial))
local macro_rules | `(tactic| trivial) => `(tactic| (apply ca_outside_in; trivial; first | assumption | exact .inl rfl | exact .inr rfl))
local macro_rules | `(tactic| trivial) => `(tactic| (apply ca_eye_in; trivial; first | assumption | exact .inl rfl | exact .inr rfl))
local macro_rules | `(tactic| trivial) => `(tactic| (apply ca_liberties_in; trivial; first | assumption | exact .inl rfl | exact .inr rfl))
abbrev Rmv (x : C5 × Int) (cs : List MC) (d : D) : Prop := cs = [.l (strD (mv x.1 x.2))] ∧ d = .c 0
abbrev Smoves_in (K : PySem.W.Frag) : Sp := PC K (fun x : C5 × Int => [nP x.1, .int x.2]) (fun x => x.2 = 1 ∨ x.2 = 2) Rmv
theorem pl_moves_in (n : C5) (k : Int) (hk : k = 1 ∨ k = 2) : SV K 0 (t_moves_in K (Sother_color K) (Sliberties_in K) (Soutside_in K) (Seye_in K)) (startE 5 [.v (nP n), .v (.int k)]) [] { nx := fun _ _ => False, rt := fun M d => Rmv (n, k) M d } := by
  unfold t_moves_in
  have ho : 1 + 2 - k = 1 ∨ 1 + 2 - k = 2 := by omega
  apply sv_seq; apply sv_par; apply ea_cons; apply ev_ep; trivial; apply ea_cons; apply ev_cell; apply en_lst; apply ea_nil; refine ⟨by decide, ?_⟩; apply ea_nil; refine ⟨_, _, rfl, ?_⟩
  apply sv_seq; apply sv_set; (apply ep_op; (apply ca_liberties_in; trivial; exact ho); trivial; exact rv_eq_ii)
  have app : ∀ (l : List Str) (w : Str) (G : Z.Env) (E : DE), l.length < 10 → G[3]? = some (some (.c 0)) → E.nx G [.l (strD (l ++ [w]))] → SV K 0 (tDrop (tBM K "list" rAppend (tVar 3) (tCons (tC (.str w)) tNil))) G [.l (strD l)] E := by
    intro l w G E hl g hE
    apply sv_drop; apply ev_bm; apply ev_var g; refine ⟨0, _, rfl, rfl, ?_⟩
    apply ea_ep; apply eps_cons; exact ep_str; exact eps_nil
    refine ⟨_, _, _, rfl, mv_append (by unfold strD; rw [List.length_map]; omega), ?_⟩
    have e : strD l ++ [D.v (.str w)] = strD (l ++ [w]) := by unfold strD; rw [List.map_append]; rfl
    show E.nx G [.l (strD l ++ [.v (.str w)])]
    rw [e]
    exact hE
  have fin : SV K 0 (tRet (tVar 3)) [some (.v (nP n)), some (.v (.int k)), some (.v (.int (1 + 2 - k))), some (.c 0), some (.v (.bl (decide (lib n (1 + 2 - k) = 1))))] [.l (strD (mv n k))] { nx := fun _ _ => False, rt := fun M d => Rmv (n, k) M d } := by
    apply sv_ret; apply ev_var rfl; exact ⟨rfl, rfl⟩
  have s3 : ∀ l, l = mvO n k ++ mvS n k → l.length < 9 → SV K 0 (tSeq (tIfS (tOr (tTest (tOp (rI0 fun i j => .bl (decide (j < i))) (tCall (Seye_in K) [] E0 (tCons (tVar 0) (tCons (tVar 2) tNil))) (tC (.int 1)))) (tAnd (tTest (tOp (rEqA K) (tCall (Seye_in K) [] E0 (tCons (tVar 0) (tCons (tVar 2) tNil))) (tC (.int 1)))) (tB (tVar 4)))) (tDrop (tBM K "list" rAppend (tVar 3) (tCons (tC (.str "eye")) tNil))) tNext) (tRet (tVar 3)))
      [some (.v (nP n)), some (.v (.int k)), some (.v (.int (1 + 2 - k))), some (.c 0), some (.v (.bl (decide (lib n (1 + 2 - k) = 1))))] [.l (strD l)] { nx := fun _ _ => False, rt := fun M d => Rmv (n, k) M d } := by
    intro l hl hlen
    apply sv_seq; apply sv_ifB
    · apply eb_or; (apply eb_test; apply ep_op; (apply ca_eye_in; trivial; exact ho); trivial; exact rv_ib); intro _; apply eb_and; (apply eb_test; apply ep_op; (apply ca_eye_in; trivial; exact ho); trivial; exact rv_eq_ii); intro _; trivial
    · intro hb
      have hc : mvE n k = (["eye"] : List Str) := by
        unfold mvE
        rw [if_pos]
        simpa [e3] using hb
      apply app l "eye" _ _ (by omega) rfl
      have e : l ++ (["eye"] : List Str) = mv n k := by unfold mv; rw [hl, hc]
      show SV K 0 _ _ [.l (strD (l ++ (["eye"] : List Str)))] _
      rw [e]
      exact fin
    · intro hb
      have hc : mvE n k = [] := by
        unfold mvE
        rw [if_neg]
        simpa [e3] using hb
      apply sv_next
      have e : l = mv n k := by unfold mv; rw [hc, List.append_nil, hl]
      rw [e]
      exact fin
  have s2 : ∀ l, l = mvO n k → l.length < 8 → SV K 0 (tSeq (tIfS (tAnd (tTest (tOp (rI0 fun i j => .bl (decide (j < i))) (tOp (rIx K) (tVar 0) (tC (.int 2))) (tC (.int 0)))) (tOr (tB (tVar 4)) (tTest (tOp (rI0 fun i j => .bl (decide (j < i))) (tCall (Sliberties_in K) [] E0 (tCons (tVar 0) (tCons (tVar 1) tNil))) (tC (.int 1)))))) (tDrop (tBM K "list" rAppend (tVar 3) (tCons (tC (.str "shared")) tNil))) tNext)
      (tSeq (tIfS (tOr (tTest (tOp (rI0 fun i j => .bl (decide (j < i))) (tCall (Seye_in K) [] E0 (tCons (tVar 0) (tCons (tVar 2) tNil))) (tC (.int 1)))) (tAnd (tTest (tOp (rEqA K) (tCall (Seye_in K) [] E0 (tCons (tVar 0) (tCons (tVar 2) tNil))) (tC (.int 1)))) (tB (tVar 4)))) (tDrop (tBM K "list" rAppend (tVar 3) (tCons (tC (.str "eye")) tNil))) tNext) (tRet (tVar 3))))
      [some (.v (nP n)), some (.v (.int k)), some (.v (.int (1 + 2 - k))), some (.c 0), some (.v (.bl (decide (lib n (1 + 2 - k) = 1))))] [.l (strD l)] { nx := fun _ _ => False, rt := fun M d => Rmv (n, k) M d } := by
    intro l hl hlen
    apply sv_seq; apply sv_ifB
    · apply eb_and; trivial; intro _; apply eb_or; trivial; intro _; apply eb_test; apply ep_op; (apply ca_liberties_in; trivial; exact hk); trivial; exact rv_ib
    · intro hb
      have hc : mvS n k = (["shared"] : List Str) := by
        unfold mvS
        rw [if_pos]
        simpa [e3] using hb
      apply app l "shared" _ _ (by omega) rfl
      exact s3 _ (by rw [hl, hc]) (by simp; omega)
    · intro hb
      have hc : mvS n k = [] := by
        unfold mvS
        rw [if_neg]
        simpa [e3] using hb
      apply sv_next
      exact s3 _ (by rw [hl, hc, List.append_nil]) (by omega)
  apply sv_seq; apply sv_ifB
  · apply eb_test; apply ep_op; (apply ca_outside_in; trivial; exact ho); trivial; exact rv_ib
  · intro hb
    have hc : mvO n k = (["outside"] : List Str) := by
      unfold mvO
      rw [if_pos]
      simpa [e3] using hb
    apply app [] "outside" _ _ (by decide) rfl
    exact s2 _ hc.symm (by decide)
  · intro hb
    have hc : mvO n k = [] := by
      unfold mvO
      rw [if_neg]
      simpa [e3] using hb
    apply sv_next
    exact s2 _ hc.symm (by decide)
end
end R35
set_option maxRecDepth 100000
set_option maxHeartbeats 4000000
namespace R35
open PySem PySem.Spec PyProof.Rows L2 Z
section
variable {K : PySem.W.Frag} {Γ : Z.Env} {M : Mem} {E : XK} {t : TA} {a b c d e i j h k : Int} {r : Bool} {p q : P} {ps qs : List P} {te : TE} {n : C5} {w : Str} {Φ : Mem → D → Prop}
local macro_rules | `(tactic| get_elem_tactic_trivial) => `(tactic| first
  | exact rv_plus_i | exact rv_ii | exact rv_ib | exact rv_eq_ii | exact rv_ne_ii | exact rv_eq_ss | exact rv_ne_ss | exact rv_eq_bb | exact rv_ne_bb | exact rv_ixT rfl | exact rv_ixL rfl
  | exact rv_plus_t (Nat.le_of_ble_eq_true rfl) | exact rv_plus_l (Nat.le_of_ble_eq_true rfl) | exact rv_plus_s (Nat.le_of_ble_eq_true rfl) | exact rv_isB | exact rv_inL rfl rfl | exact rv_inT rfl rfl | exact rv_ic (by decide))
local macro_rules | `(tactic| decreasing_trivial) => `(tactic| first
  | exact rc_len rfl | exact rc_int | exact rc_intB | exact rc_abs | exact rc_tupleL | exact rc_tupleT | exact rc_list rfl | exact rc_max2 | exact rc_min2)
local macro_rules | `(tactic| trivial) => `(tactic| first
  | exact ep_int | exact ep_str | exact ep_bl | exact ep_non
  | exact ep_var rfl
  | (apply ep_op; trivial; trivial; get_elem_tactic_trivial)
  | (apply ep_cb; trivial; decreasing_trivial)
  | (apply ep_andF; trivial; rfl)
  | (apply ep_andV; trivial; intro _; trivial)
  | (apply ep_orT; trivial; rfl)
  | (apply ep_orV; trivial; intro _; trivial)
  | (apply ep_notV; trivial)
  | (apply ep_isN; trivial) | (apply ep_notN; trivial)
  | (apply ep_un; trivial; exact ru_i)
  | (apply ep_tup; trivial; exact Nat.le_of_ble_eq_true rfl) | (apply ep_lst; trivial; exact Nat.le_of_ble_eq_true rfl)
  | (apply ep_chain; trivial; trivial; get_elem_tactic_trivial; intro _; trivial; intro _; get_elem_tactic_trivial)
  | exact eps_nil | (apply eps_cons; trivial; trivial) | (apply eps_star; trivial; rfl; trivial)
  | (apply ef_ep; trivial)
  | (apply eb_B; trivial) | (apply eb_test; trivial)
  | (apply eb_andF; trivial; rfl)
  | (apply eb_and; trivial; intro _; trivial)
  | (apply eb_orT; trivial; rfl)
  | (apply eb_or; trivial; intro _; trivial)
  | (apply eb_not; trivial)
  | (apply ep_ifT; trivial; rfl; trivial) | (apply ep_ifF; trivial; rfl; trivial)
  | (apply ep_ifI; trivial; intro _; trivial; intro _; trivial) | (apply ep_ifL; trivial; intro _; trivial; intro _; trivial)
  | (apply ep_isi_int; trivial; first | rfl | assumption) | (apply ep_isi_bool; trivial; first | rfl | assumption) | (apply ep_isi_tuple; trivial; first | rfl | assumption) | (apply ep_isi_str; trivial; first | rfl | assumption)
  | (apply ep_isi_list; trivial; first | rfl | assumption) | (apply ep_isi_lt; trivial; first | rfl | assumption))
local macro_rules | `(tactic| trivial) => `(tactic| (apply ca_is_integer; trivial; first | rfl | assumption))
local macro_rules | `(tactic| trivial) => `(tactic| (apply ca_is_count; trivial))
local macro_rules | `(tactic| trivial) => `(tactic| (apply ca_is_between; trivial; first | rfl | assumption))
local macro_rules | `(tactic| trivial) => `(tactic| (apply ca_is_color; trivial; first | rfl | assumption))
local macro_rules | `(tactic| trivial) => `(tactic| (apply ca_other_color; trivial))
local macro_rules | `(tactic| trivial) => `(tactic| (apply ca_counts_of; trivial))
local macro_rules | `(tactic| trivial) => `(tactic| (apply ca_outside_in; trivial; first | assumption | exact .inl rfl | exact .inr rfl))
local macro_rules | `(tactic| trivial) => `(tactic| (apply ca_eye_in; trivial; first | assumption | exact .inl rfl | exact .inr rfl))
local macro_rules | `(tactic| trivial) => `(tactic| (apply ca_liberties_in; trivial; first | assumption | exact .inl rfl | exact .inr rfl))
abbrev Wd (w : Str) : Prop := w = "outside" ∨ w = "shared" ∨ w = "eye"
abbrev Scounts_behind (K : PySem.W.Frag) : Sp := PF K (fun x : C5 × Int × Str => [nP x.1, .int x.2.1, .str x.2.2]) (fun x => (x.2.1 = 1 ∨ x.2.1 = 2) ∧ Wd x.2.2) (fun x r => r = nP (bhd x.1 x.2.1 x.2.2))
theorem pl_counts_behind (n : C5) (k : Int) (w : Str) (hk : k = 1 ∨ k = 2) (hw : Wd w) : SV K 0 (t_counts_behind K (Sother_color K)) (startE 6 [.v (nP n), .v (.int k), .v (.str w)]) [] (DR (· = nP (bhd n k w))) := by
  unfold t_counts_behind
  have fin : ∀ (pl : Int), SV K 0 (tRet (tCB (rTupO K) (tCons (tLc (iEnumS K (tCons (tVar 0) tNil)) (gTup K 2 (gCons (gName 4) (gCons (gName 5) gNil))) tYes (tOp (rI0 fun i j => .int (i - j)) (tVar 5) (tCB rIntO (tCons (tOp (rEqA K) (tVar 4) (tVar 3)) tNil))) [4, 5]) tNil)))
      [some (.v (nP n)), some (.v (.int k)), some (.v (.str w)), some (.v (.int pl)), none, none] [] (DR (· = nP (les n pl))) := by
    intro pl
    apply sv_retP; apply ep_cb; apply eps_cons
    apply ep_lcU (tgt_tup (tgts_cons (tgt_name (by decide)) (tgts_cons (tgt_name (by decide)) tgts_nil)))
    apply eip_enum; (apply eps_cons; trivial; exact eps_nil); rfl
    exact Nat.le_of_ble_eq_true rfl
    apply lcU_take; apply gv_tup rfl; apply gvs_cons; apply gv_name; apply gvs_cons; apply gv_name; apply gvs_nil; trivial
    apply lcU_take; apply gv_tup rfl; apply gvs_cons; apply gv_name; apply gvs_cons; apply gv_name; apply gvs_nil; trivial
    apply lcU_take; apply gv_tup rfl; apply gvs_cons; apply gv_name; apply gvs_cons; apply gv_name; apply gvs_nil; trivial
    apply lcU_take; apply gv_tup rfl; apply gvs_cons; apply gv_name; apply gvs_cons; apply gv_name; apply gvs_nil; trivial
    apply lcU_take; apply gv_tup rfl; apply gvs_cons; apply gv_name; apply gvs_cons; apply gv_name; apply gvs_nil; trivial
    exact .nil
    exact eps_nil
    exact rc_tupleL
    apply fz_is
    simp [les, nP, iP5]
  apply sv_seq; apply sv_set; trivial
  rcases hw with rfl | rfl | rfl
  · apply sv_seq; apply sv_ifT; trivial; rfl; apply sv_set; trivial
    exact fin _
  · apply sv_seq; apply sv_ifF; trivial; rfl; apply sv_next
    exact fin _
  · apply sv_seq; apply sv_ifT; trivial; rfl; apply sv_set; trivial
    exact fin _
theorem ca_counts_behind (hh : EPs K t Γ M [nP n, .int k, .str w]) (hk : k = 1 ∨ k = 2) (hw : Wd w) : Z.EP K (tCall (Scounts_behind K) [] E t) Γ M (nP (bhd n k w)) := ep_call hh (n, k, w) rfl ⟨hk, hw⟩ (fun _ h => h)
abbrev Sneed_in (K : PySem.W.Frag) : Sp := PF K (fun x : C5 × Int => [nP x.1, .int x.2]) (fun x => x.2 = 1 ∨ x.2 = 2) (fun x r => r = .int (need x.1 x.2))
theorem pl_need_in (n : C5) (k : Int) (hk : k = 1 ∨ k = 2) : SV K 0 (t_need_in K (Seye_in K) (Sother_color K)) (startE 5 [.v (nP n), .v (.int k)]) [] (DR (· = .int (need n k))) := by
  unfold t_need_in
  have ho : 1 + 2 - k = 1 ∨ 1 + 2 - k = 2 := by omega
  apply sv_seq; apply sv_set; trivial
  apply sv_seq; apply sv_par; apply ea_ep
  · apply eps_cons; trivial; apply eps_cons; (apply ep_op; (apply ca_eye_in; trivial; exact ho); trivial; exact rv_ib); exact eps_nil
  refine ⟨_, _, rfl, ?_⟩
  apply sv_seq; apply sv_ifB; (apply eb_not; apply eb_or; trivial; intro _; trivial)
  · intro hb
    apply sv_retP; (apply ep_cb; trivial; exact rc_max2); apply fz_is
    have h1 : ¬ (0 < ey n k ∨ 0 < ey n (3 - k)) := by simpa [e3] using hb
    unfold need
    rw [if_pos h1]
    congr 1
    split <;> omega
  · intro hb
    have h1 : ¬ ¬ (0 < ey n k ∨ 0 < ey n (3 - k)) := by
      intro h2
      have h3 : (!(decide (0 < ey n k) || decide (0 < ey n (3 - k)))) = false := hb
      rw [decide_eq_false (fun z => h2 (.inl z)), decide_eq_false (fun z => h2 (.inr z))] at h3
      cases h3
    apply sv_next; apply sv_retP; (apply ep_ifI; apply eb_and; trivial; intro _; trivial; intro _; trivial; intro _; trivial); apply fz_is
    unfold need
    rw [if_neg h1]
    congr 1
    show (if (decide (0 < ey n k) && !decide (0 < ey n (3 - k))) = true then -n.s else n.s) = _
    by_cases h3 : 0 < ey n k <;> by_cases h4 : 0 < ey n (3 - k) <;> simp [h3, h4]
theorem ca_need_in (hh : EPs K t Γ M [nP n, .int k]) (hk : k = 1 ∨ k = 2) : Z.EP K (tCall (Sneed_in K) [] E t) Γ M (.int (need n k)) := ep_call hh (n, k) rfl hk (fun _ h => h)
abbrev Slead_in (K : PySem.W.Frag) : Sp := PF K (fun x : C5 × Int => [nP x.1, .int x.2]) (fun x => x.2 = 1 ∨ x.2 = 2) (fun x r => r = .int (lead x.1 x.2))
theorem pl_lead_in (n : C5) (k : Int) (hk : k = 1 ∨ k = 2) : SV K 0 (t_lead_in K (Sother_color K) (Soutside_in K) (Seye_in K) (Sneed_in K)) (startE 4 [.v (nP n), .v (.int k)]) [] (DR (· = .int (lead n k))) := by
  unfold t_lead_in
  have ho : 1 + 2 - k = 1 ∨ 1 + 2 - k = 2 := by omega
  apply sv_seq; apply sv_set; trivial
  apply sv_seq; apply sv_set
  · apply ep_op; apply ep_op; apply ep_op; (apply ca_outside_in; trivial; exact hk); (apply ca_eye_in; trivial; exact hk); exact rv_plus_i; (apply ca_outside_in; trivial; exact ho); exact rv_ii; (apply ca_eye_in; trivial; exact ho); exact rv_ii
  apply sv_retP; (apply ep_op; trivial; (apply ca_need_in; trivial; exact hk); exact rv_ii); exact fz_is rfl
theorem ca_lead_in (hh : EPs K t Γ M [nP n, .int k]) (hk : k = 1 ∨ k = 2) : Z.EP K (tCall (Slead_in K) [] E t) Γ M (.int (lead n k)) := ep_call hh (n, k) rfl hk (fun _ h => h)
abbrev Sresult_in (K : PySem.W.Frag) : Sp := PF K (fun x : C5 × Int => [nP x.1, .int x.2]) (fun x => x.2 = 1 ∨ x.2 = 2) (fun x r => r = .int (rsl x.1 x.2))
theorem pl_result_in (n : C5) (k : Int) (hk : k = 1 ∨ k = 2) : SV K 0 (t_result_in K (Sother_color K) (Slead_in K)) (startE 3 [.v (nP n), .v (.int k)]) [] (DR (· = .int (rsl n k))) := by
  unfold t_result_in
  have ho : 1 + 2 - k = 1 ∨ 1 + 2 - k = 2 := by omega
  apply sv_seq; apply sv_set; trivial
  apply sv_seq; apply sv_ifB; (apply eb_test; apply ep_op; (apply ca_lead_in; trivial; exact hk); trivial; exact rv_ib)
  · intro hb
    apply sv_retP; trivial; apply fz_is; unfold rsl; rw [if_pos (of_decide_eq_true hb)]
  · intro hb
    apply sv_next; apply sv_retP; (apply ep_ifI; apply eb_test; apply ep_op; (apply ca_lead_in; trivial; exact ho); trivial; exact rv_ib; intro _; trivial; intro _; trivial); apply fz_is
    unfold rsl
    rw [if_neg (of_decide_eq_false hb)]
    congr 1
    by_cases h2 : 1 ≤ lead n (3 - k)
    · rw [if_pos h2, if_pos (decide_eq_true (show 1 ≤ lead n (1 + 2 - k) from h2))]; rfl
    · rw [if_neg h2, if_neg (show ¬ decide (1 ≤ lead n (1 + 2 - k)) = true from fun z => h2 (of_decide_eq_true z))]
theorem ca_result_in (hh : EPs K t Γ M [nP n, .int k]) (hk : k = 1 ∨ k = 2) : Z.EP K (tCall (Sresult_in K) [] E t) Γ M (.int (rsl n k)) := ep_call hh (n, k) rfl hk (fun _ h => h)
theorem ca_check_first' (hh : EPs K t Γ M [.int k]) (hk : k = 1 ∨ k = 2) : Z.EP K (tCall (Scheck_first K) [] E t) Γ M .non := ep_call hh k rfl hk (fun _ h => h)
abbrev Srace_result (K : PySem.W.Frag) : Sp := PF K (fun x : C5 × Int => [rP K x.1, .int x.2]) (fun x => x.2 = 1 ∨ x.2 = 2) (fun x r => r = .int (rsl x.1 x.2))
theorem pl_race_result (n : C5) (k : Int) (hk : k = 1 ∨ k = 2) : SV K 0 (t_race_result K (Scheck_first K) (Sresult_in K) (Scounts_of K)) (startE 2 [.v (rP K n), .v (.int k)]) [] (DR (· = .int (rsl n k))) := by
  unfold t_race_result
  apply sv_seq; apply sv_drop; apply ev_ep; (apply ca_check_first'; trivial; exact hk)
  apply sv_retP; (apply ca_result_in; trivial; exact hk); exact fz_is rfl
abbrev Srace_need (K : PySem.W.Frag) : Sp := PF K (fun x : C5 × Int => [rP K x.1, .int x.2]) (fun x => x.2 = 1 ∨ x.2 = 2) (fun x r => r = .int (need x.1 x.2))
theorem pl_race_need (n : C5) (k : Int) (hk : k = 1 ∨ k = 2) : SV K 0 (t_race_need K (Scheck_color K) (Sneed_in K) (Scounts_of K)) (startE 2 [.v (rP K n), .v (.int k)]) [] (DR (· = .int (need n k))) := by
  unfold t_race_need
  apply sv_seq; apply sv_drop; apply ev_ep; (apply ca_check_color; trivial; exact hk)
  apply sv_retP; (apply ca_need_in; trivial; exact hk); exact fz_is rfl
abbrev Srace_lead (K : PySem.W.Frag) : Sp := PF K (fun x : C5 × Int => [rP K x.1, .int x.2]) (fun x => x.2 = 1 ∨ x.2 = 2) (fun x r => r = .int (lead x.1 x.2))
theorem pl_race_lead (n : C5) (k : Int) (hk : k = 1 ∨ k = 2) : SV K 0 (t_race_lead K (Scheck_color K) (Slead_in K) (Scounts_of K)) (startE 2 [.v (rP K n), .v (.int k)]) [] (DR (· = .int (lead n k))) := by
  unfold t_race_lead
  apply sv_seq; apply sv_drop; apply ev_ep; (apply ca_check_color; trivial; exact hk)
  apply sv_retP; (apply ca_lead_in; trivial; exact hk); exact fz_is rfl
end
end R35
set_option maxRecDepth 100000
set_option maxHeartbeats 4000000
namespace R35
open PySem PySem.Spec PyProof.Rows L2 Z
theorem mv_wd {n : C5} {k : Int} {w : Str} (h : w ∈ mv n k) : w = "outside" ∨ w = "shared" ∨ w = "eye" := by
  unfold mv mvO mvS mvE at h
  simp only [List.mem_append] at h
  rcases h with (h | h) | h <;> split at h <;> simp at h <;> simp [h]
theorem mv_mem {n : C5} {k : Int} : (("outside" : Str) ∈ mv n k ↔ 0 < oc n (3 - k)) ∧ (("shared" : Str) ∈ mv n k ↔ 0 < n.s ∧ (lib n (3 - k) = 1 ∨ 1 < lib n k)) ∧ (("eye" : Str) ∈ mv n k ↔ 1 < ey n (3 - k) ∨ (ey n (3 - k) = 1 ∧ lib n (3 - k) = 1)) := by
  have e1 : ("outside" : Str) ≠ "shared" := by decide
  have e2 : ("outside" : Str) ≠ "eye" := by decide
  have e3 : ("shared" : Str) ≠ "eye" := by decide
  have e4 : ("shared" : Str) ≠ "outside" := by decide
  have e5 : ("eye" : Str) ≠ "outside" := by decide
  have e6 : ("eye" : Str) ≠ "shared" := by decide
  unfold mv mvO mvS mvE
  simp only [List.mem_append]
  refine ⟨?_, ?_, ?_⟩ <;> split <;> split <;> split <;> simp_all
theorem bhd_o {n : C5} {k : Int} : bhd n k "outside" = les n (2 - k) := by
  show les n (1 + 2 - k + -1) = _
  rw [show 1 + 2 - k + -1 = 2 - k by omega]
theorem bhd_s {n : C5} {k : Int} : bhd n k "shared" = les n 2 := rfl
theorem bhd_e {n : C5} {k : Int} : bhd n k "eye" = les n (5 - k) := by
  show les n (1 + 2 - k + 2) = _
  rw [show 1 + 2 - k + 2 = 5 - k by omega]
theorem wf_bhd {n : C5} {k : Int} {w : Str} (wn : wfN n) (hk : k = 1 ∨ k = 2) (hw : w ∈ mv n k) (hl : 0 < lib (bhd n k w) (3 - k)) : wfN (bhd n k w) := by
  obtain ⟨w1, w2, w3, w4, w5, w6, w7⟩ := wn
  rcases mv_wd hw with rfl | rfl | rfl
  · have h := mv_mem.1.mp hw
    rw [bhd_o] at hl ⊢
    rcases hk with rfl | rfl <;> simp [oc] at h <;> simp [lib, les, oc, ey] at hl <;> constructor <;> simp [les] <;> omega
  · have h := mv_mem.2.1.mp hw
    rw [bhd_s] at hl ⊢
    rcases hk with rfl | rfl <;> simp [lib, oc, ey] at h <;> simp [lib, les, oc, ey] at hl <;> constructor <;> simp [les] <;> omega
  · have h := mv_mem.2.2.mp hw
    rw [bhd_e] at hl ⊢
    rcases hk with rfl | rfl <;> simp [lib, oc, ey] at h <;> simp [lib, les, oc, ey] at hl <;> constructor <;> simp [les] <;> omega
def ixn (k x : Int) : Nat := if x = 3 - k then 0 else if x = 0 then 1 else 2
def In3 (x : Int) : Prop := x = 0 ∨ x = 1 ∨ x = 2
theorem idx3 {k x : Int} (hk : k = 1 ∨ k = 2) (hx : In3 x) : idxP (.int x) [.int (1 + 2 - k), .int 0, .int k] = some (ixn k x) := by
  unfold In3 at hx
  rcases hk with rfl | rfl <;> rcases hx with rfl | rfl | rfl <;> rfl
theorem rsl_in {n : C5} {k : Int} (hk : k = 1 ∨ k = 2) : In3 (rsl n k) := by
  unfold rsl In3
  split
  · omega
  · split <;> omega
abbrev wP : Option Str → P
  | none => .non
  | some w => .str w
def opts (n : C5) (k : Int) : List (Option Str) := (mv n k).map some ++ [none]
def rbe (n : C5) (k : Int) : Option Str → Int
  | none => if 0 ≤ lead n (3 - k) then 3 - k else 0
  | some w => if lib (bhd n k w) (3 - k) = 0 then k else rsl (bhd n k w) (3 - k)
theorem rbe_in {n : C5} {k : Int} {o : Option Str} (hk : k = 1 ∨ k = 2) : In3 (rbe n k o) := by
  cases o with
  | none =>
    show In3 (if 0 ≤ lead n (3 - k) then 3 - k else 0)
    have h : 3 - k = 0 ∨ 3 - k = 1 ∨ 3 - k = 2 := by omega
    by_cases hl : 0 ≤ lead n (3 - k)
    · rw [if_pos hl]; exact h
    · rw [if_neg hl]; exact .inl rfl
  | some w =>
    show In3 (if _ then _ else _)
    split
    · unfold In3; omega
    · exact rsl_in (by omega)
theorem inP_strs {w : Str} {l : List Str} (h : w ∈ l) : inP (.str w) (l.map .str) = true := by
  unfold inP inV
  rw [List.any_eq_true]
  exact ⟨.str w, by rw [List.map_map]; exact List.mem_map.mpr ⟨w, h, rfl⟩, by show (w == w) = true; simp⟩
theorem flat_strs (l : List Str) : (l.map P.str).all flat = true := by
  rw [List.all_eq_true]
  intro p hp
  obtain ⟨w, _, rfl⟩ := List.mem_map.mp hp
  rfl
theorem fzs_strs {n : Nat} {M : Mem} : ∀ l : List Str, Fzs n M (l.map fun w => .v (.str w)) (l.map .str)
  | [] => .nil
  | w :: l => .cons (.v _) (fzs_strs l)
theorem strD_sh (n : Nat) (l : List Str) : (strD l).map (shD n) = strD l := by
  unfold strD
  rw [List.map_map]
  rfl
section
variable {K : PySem.W.Frag} {Γ : Z.Env} {M : Mem} {E : XK} {t : TA} {a b c d e i j h k : Int} {r : Bool} {p q : P} {ps qs : List P} {te : TE} {n : C5} {w : Str} {Φ : Mem → D → Prop}
local macro_rules | `(tactic| get_elem_tactic_trivial) => `(tactic| first
  | exact rv_plus_i | exact rv_ii | exact rv_ib | exact rv_eq_ii | exact rv_ne_ii | exact rv_eq_ss | exact rv_ne_ss | exact rv_eq_bb | exact rv_ne_bb | exact rv_ixT rfl | exact rv_ixL rfl
  | exact rv_plus_t (Nat.le_of_ble_eq_true rfl) | exact rv_plus_l (Nat.le_of_ble_eq_true rfl) | exact rv_plus_s (Nat.le_of_ble_eq_true rfl) | exact rv_isB | exact rv_inL rfl rfl | exact rv_inT rfl rfl | exact rv_ic (by decide))
local macro_rules | `(tactic| decreasing_trivial) => `(tactic| first
  | exact rc_len rfl | exact rc_int | exact rc_intB | exact rc_abs | exact rc_tupleL | exact rc_tupleT | exact rc_list rfl | exact rc_max2 | exact rc_min2)
local macro_rules | `(tactic| trivial) => `(tactic| first
  | exact ep_int | exact ep_str | exact ep_bl | exact ep_non
  | exact ep_var rfl
  | (apply ep_op; trivial; trivial; get_elem_tactic_trivial)
  | (apply ep_cb; trivial; decreasing_trivial)
  | (apply ep_andF; trivial; rfl)
  | (apply ep_andV; trivial; intro _; trivial)
  | (apply ep_orT; trivial; rfl)
  | (apply ep_orV; trivial; intro _; trivial)
  | (apply ep_notV; trivial)
  | (apply ep_isN; trivial) | (apply ep_notN; trivial)
  | (apply ep_un; trivial; exact ru_i)
  | (apply ep_tup; trivial; exact Nat.le_of_ble_eq_true rfl) | (apply ep_lst; trivial; exact Nat.le_of_ble_eq_true rfl)
  | (apply ep_chain; trivial; trivial; get_elem_tactic_trivial; intro _; trivial; intro _; get_elem_tactic_trivial)
  | exact eps_nil | (apply eps_cons; trivial; trivial) | (apply eps_star; trivial; rfl; trivial)
  | (apply ef_ep; trivial)
  | (apply eb_B; trivial) | (apply eb_test; trivial)
  | (apply eb_andF; trivial; rfl)
  | (apply eb_and; trivial; intro _; trivial)
  | (apply eb_orT; trivial; rfl)
  | (apply eb_or; trivial; intro _; trivial)
  | (apply eb_not; trivial)
  | (apply ep_ifT; trivial; rfl; trivial) | (apply ep_ifF; trivial; rfl; trivial)
  | (apply ep_ifI; trivial; intro _; trivial; intro _; trivial) | (apply ep_ifL; trivial; intro _; trivial; intro _; trivial)
  | (apply ep_isi_int; trivial; first | rfl | assumption) | (apply ep_isi_bool; trivial; first | rfl | assumption) | (apply ep_isi_tuple; trivial; first | rfl | assumption) | (apply ep_isi_str; trivial; first | rfl | assumption)
  | (apply ep_isi_list; trivial; first | rfl | assumption) | (apply ep_isi_lt; trivial; first | rfl | assumption))
local macro_rules | `(tactic| trivial) => `(tactic| (apply ca_is_integer; trivial; first | rfl | assumption))
local macro_rules | `(tactic| trivial) => `(tactic| (apply ca_is_count; trivial))
local macro_rules | `(tactic| trivial) => `(tactic| (apply ca_is_between; trivial; first | rfl | assumption))
local macro_rules | `(tactic| trivial) => `(tactic| (apply ca_is_color; trivial; first | rfl | assumption))
local macro_rules | `(tactic| trivial) => `(tactic| (apply ca_other_color; trivial))
local macro_rules | `(tactic| trivial) => `(tactic| (apply ca_counts_of; trivial))
local macro_rules | `(tactic| trivial) => `(tactic| (apply ca_outside_in; trivial; first | assumption | exact .inl rfl | exact .inr rfl))
local macro_rules | `(tactic| trivial) => `(tactic| (apply ca_eye_in; trivial; first | assumption | exact .inl rfl | exact .inr rfl))
local macro_rules | `(tactic| trivial) => `(tactic| (apply ca_liberties_in; trivial; first | assumption | exact .inl rfl | exact .inr rfl))
theorem ca_movesD (hh : EPs K t Γ M [nP n, .int k]) (hk : k = 1 ∨ k = 2) : Z.EP K (tCall (Smoves_in K) [] E t) Γ M (.lst ((mv n k).map .str)) := ev_callCP (ea_ep hh ⟨(n, k), rfl, hk, fun cs d ⟨e1, e2⟩ => ⟨_, by
  subst e1 e2
  exact .c (Nat.zero_le _) rfl (fzs_strs _), rfl, rfl⟩⟩)
abbrev Srace_moves (K : PySem.W.Frag) : Sp := PC K (fun x : C5 × Int => [rP K x.1, .int x.2]) (fun x => x.2 = 1 ∨ x.2 = 2) Rmv
theorem pl_race_moves (n : C5) (k : Int) (hk : k = 1 ∨ k = 2) : SV K 0 (t_race_moves K (Scheck_color K) (Smoves_in K) (Scounts_of K)) (startE 2 [.v (rP K n), .v (.int k)]) [] { nx := fun _ _ => False, rt := fun M d => Rmv (n, k) M d } := by
  unfold t_race_moves
  apply sv_seq; apply sv_drop; apply ev_ep; (apply ca_check_color; trivial; exact hk)
  apply sv_ret; apply ev_callC; apply ea_ep; trivial
  refine ⟨(n, k), rfl, hk, fun cs d ⟨e1, e2⟩ => ?_⟩
  subst e1 e2
  refine ⟨?_, rfl⟩
  show [MC.l ((strD (mv n k)).map (shD 0))] = _
  rw [strD_sh]
abbrev Srace_after (K : PySem.W.Frag) : Sp := PF K (fun x : C5 × Int × Str => [rP K x.1, .int x.2.1, .str x.2.2]) (fun x => wfN x.1 ∧ (x.2.1 = 1 ∨ x.2.1 = 2) ∧ x.2.2 ∈ mv x.1 x.2.1) (fun x r => r = if 0 < lib (bhd x.1 x.2.1 x.2.2) (3 - x.2.1) then rP K (bhd x.1 x.2.1 x.2.2) else .non)
theorem pl_race_after (n : C5) (k : Int) (w : Str) (wn : wfN n) (hk : k = 1 ∨ k = 2) (hw : w ∈ mv n k) : SV K 0 (t_race_after K (Scheck_color K) (Scounts_of K) (Srace_with K) (Smoves_in K) (Scounts_behind K) (Sliberties_in K) (Sother_color K)) (startE 5 [.v (rP K n), .v (.int k), .v (.str w)]) []
    (DR (· = if 0 < lib (bhd n k w) (3 - k) then rP K (bhd n k w) else .non)) := by
  unfold t_race_after
  have ho : 1 + 2 - k = 1 ∨ 1 + 2 - k = 2 := by omega
  apply sv_seq; apply sv_drop; apply ev_ep; (apply ca_check_color; trivial; exact hk)
  apply sv_seq; apply sv_set; trivial
  apply sv_seq; apply sv_ifF; trivial; rfl; apply sv_next
  apply sv_seq; apply sv_ifF
  · apply eb_or; trivial; intro _; apply eb_test; apply ep_op; trivial; (apply ca_movesD; trivial; exact hk); exact rv_inL rfl (flat_strs _)
  · rw [inP_strs hw]; rfl
  apply sv_next
  apply sv_seq; apply sv_set; (apply ca_counts_behind; trivial; exact hk; exact mv_wd hw)
  by_cases hl : 0 < lib (bhd n k w) (3 - k)
  · rw [if_pos hl]
    apply sv_retP; apply ep_ifT; (apply eb_test; apply ep_op; (apply ca_liberties_in; trivial; exact ho); trivial; exact rv_ib); exact decide_eq_true hl; (apply ca_race_with; trivial; exact wf_bhd wn hk hw hl); exact fz_is rfl
  · rw [if_neg hl]
    apply sv_retP; apply ep_ifF; (apply eb_test; apply ep_op; (apply ca_liberties_in; trivial; exact ho); trivial; exact rv_ib); exact decide_eq_false hl; trivial; exact fz_is rfl
abbrev Sresult_behind (K : PySem.W.Frag) : Sp := PF K (fun x : C5 × Int × Option Str => [nP x.1, .int x.2.1, wP x.2.2]) (fun x => (x.2.1 = 1 ∨ x.2.1 = 2) ∧ ∀ w, x.2.2 = some w → Wd w) (fun x r => r = .int (rbe x.1 x.2.1 x.2.2))
theorem pl_result_behind (n : C5) (k : Int) (o : Option Str) (hk : k = 1 ∨ k = 2) (hw : ∀ w, o = some w → Wd w) : SV K 0 (t_result_behind K (Sother_color K) (Slead_in K) (Scounts_behind K) (Sliberties_in K) (Sresult_in K)) (startE 5 [.v (nP n), .v (.int k), .v (wP o)]) [] (DR (· = .int (rbe n k o))) := by
  unfold t_result_behind
  have ho : 1 + 2 - k = 1 ∨ 1 + 2 - k = 2 := by omega
  apply sv_seq; apply sv_set; trivial
  cases o with
  | none =>
    apply sv_seq; apply sv_ifT; (apply eb_B; exact ep_isN (p := .non) (ef_ep (ep_var rfl))); rfl
    apply sv_retP; (apply ep_ifI; apply eb_test; apply ep_op; (apply ca_lead_in; trivial; exact ho); trivial; exact rv_ib; intro _; trivial; intro _; trivial); apply fz_is
    show P.int (if decide (0 ≤ lead n (1 + 2 - k)) = true then 1 + 2 - k else 0) = P.int (if 0 ≤ lead n (3 - k) then 3 - k else 0)
    simp [e3]
  | some w =>
    apply sv_seq; apply sv_ifF; (apply eb_B; exact ep_isN (p := .str w) (ef_ep (ep_var rfl))); rfl; apply sv_next
    apply sv_seq; apply sv_set; (apply ca_counts_behind; (apply eps_cons; trivial; apply eps_cons; trivial; apply eps_cons; exact ep_var (p := .str w) rfl; exact eps_nil); exact hk; exact hw w rfl)
    apply sv_retP; (apply ep_ifI; apply eb_test; apply ep_op; (apply ca_liberties_in; trivial; exact ho); trivial; exact rv_eq_ii; intro _; trivial; intro _; apply ca_result_in; trivial; exact ho); apply fz_is
    show P.int (if decide (lib (bhd n k w) (1 + 2 - k) = 0) = true then k else rsl (bhd n k w) (1 + 2 - k)) = P.int (if lib (bhd n k w) (3 - k) = 0 then k else rsl (bhd n k w) (3 - k))
    simp [e3]
end
end R35
set_option maxRecDepth 100000
set_option maxHeartbeats 4000000
namespace R35
open PySem PySem.Spec PyProof.Rows L2 Z
abbrev ixw (n : C5) (k : Int) (o : Option Str) : Int := ixn k (rbe n k o)
def bst (n : C5) (k : Int) : List (Option Str) := (opts n k).filter fun o => decide (ixw n k o = maxL ((opts n k).map (ixw n k)))
abbrev optD (l : List (Option Str)) : List D := l.map fun o => .v (wP o)
abbrev Rbest (x : C5 × Int) (cs : List MC) (d : D) : Prop := cs = [.l (optD (bst x.1 x.2))] ∧ d = .c 0
theorem opts_len {n : C5} {k : Int} : 0 < (opts n k).length ∧ (opts n k).length ≤ 4 := by
  unfold opts mv mvO mvS mvE
  split <;> split <;> split <;> simp
theorem opts_wd {n : C5} {k : Int} {o : Option Str} (h : o ∈ opts n k) : ∀ w, o = some w → w = "outside" ∨ w = "shared" ∨ w = "eye" := by
  rintro w rfl
  unfold opts at h
  simp only [List.mem_append, List.mem_map, List.mem_singleton] at h
  rcases h with ⟨v, hv, e⟩ | h
  · cases e; exact mv_wd hv
  · cases h
def vRow (n : C5) (k : Int) : P → P
  | .str w => .tup [.int (ixw n k (some w)), .str w]
  | .non => .tup [.int (ixw n k none), .non]
  | p => p
def vFst : P → P
  | .tup (p :: _) => p
  | p => p
def vSnd : P → P
  | .tup (_ :: p :: _) => p
  | p => p
def fMax (m : Int) : P → Bool
  | .tup (.int i :: _) => decide (i = m)
  | _ => false
theorem vRow_wP {n : C5} {k : Int} (o : Option Str) : vRow n k (wP o) = .tup [.int (ixw n k o), wP o] := by cases o <;> rfl
abbrev rowsP (n : C5) (k : Int) : List P := ((opts n k).map wP).map (vRow n k)
theorem rows_eq {n : C5} {k : Int} : rowsP n k = (opts n k).map fun o => .tup [.int (ixw n k o), wP o] := by
  unfold rowsP
  rw [List.map_map]
  exact List.map_congr_left fun o _ => vRow_wP o
theorem at_opts {l : List (Option Str)} {i : Nat} {p : P} (h : (l.map wP)[i]? = some p) : ∃ o ∈ l, p = wP o := by
  rw [List.getElem?_map] at h
  cases e : l[i]? with
  | none => rw [e] at h; cases h
  | some w => rw [e] at h; cases h; exact ⟨w, List.mem_of_getElem? e, rfl⟩
theorem at_rows {n : C5} {k : Int} {i : Nat} {p : P} (h : (rowsP n k)[i]? = some p) : ∃ o ∈ opts n k, p = .tup [.int (ixw n k o), wP o] := by
  rw [rows_eq, List.getElem?_map] at h
  cases e : (opts n k)[i]? with
  | none => rw [e] at h; cases h
  | some w => rw [e] at h; cases h; exact ⟨w, List.mem_of_getElem? e, rfl⟩
section
variable {K : PySem.W.Frag} {Γ : Z.Env} {M : Mem} {E : XK} {t : TA} {a b c d e i j h k : Int} {r : Bool} {p q : P} {ps qs : List P} {te : TE} {n : C5} {w : Str} {Φ : Mem → D → Prop}
local macro_rules | `(tactic| get_elem_tactic_trivial) => `(tactic| first
  | exact rv_plus_i | exact rv_ii | exact rv_ib | exact rv_eq_ii | exact rv_ne_ii | exact rv_eq_ss | exact rv_ne_ss | exact rv_eq_bb | exact rv_ne_bb | exact rv_ixT rfl | exact rv_ixL rfl
  | exact rv_plus_t (Nat.le_of_ble_eq_true rfl) | exact rv_plus_l (Nat.le_of_ble_eq_true rfl) | exact rv_plus_s (Nat.le_of_ble_eq_true rfl) | exact rv_isB | exact rv_inL rfl rfl | exact rv_inT rfl rfl | exact rv_ic (by decide))
local macro_rules | `(tactic| decreasing_trivial) => `(tactic| first
  | exact rc_len rfl | exact rc_int | exact rc_intB | exact rc_abs | exact rc_tupleL | exact rc_tupleT | exact rc_list rfl | exact rc_max2 | exact rc_min2)
local macro_rules | `(tactic| trivial) => `(tactic| first
  | exact ep_int | exact ep_str | exact ep_bl | exact ep_non
  | exact ep_var rfl
  | (apply ep_op; trivial; trivial; get_elem_tactic_trivial)
  | (apply ep_cb; trivial; decreasing_trivial)
  | (apply ep_andF; trivial; rfl)
  | (apply ep_andV; trivial; intro _; trivial)
  | (apply ep_orT; trivial; rfl)
  | (apply ep_orV; trivial; intro _; trivial)
  | (apply ep_notV; trivial)
  | (apply ep_isN; trivial) | (apply ep_notN; trivial)
  | (apply ep_un; trivial; exact ru_i)
  | (apply ep_tup; trivial; exact Nat.le_of_ble_eq_true rfl) | (apply ep_lst; trivial; exact Nat.le_of_ble_eq_true rfl)
  | (apply ep_chain; trivial; trivial; get_elem_tactic_trivial; intro _; trivial; intro _; get_elem_tactic_trivial)
  | exact eps_nil | (apply eps_cons; trivial; trivial) | (apply eps_star; trivial; rfl; trivial)
  | (apply ef_ep; trivial)
  | (apply eb_B; trivial) | (apply eb_test; trivial)
  | (apply eb_andF; trivial; rfl)
  | (apply eb_and; trivial; intro _; trivial)
  | (apply eb_orT; trivial; rfl)
  | (apply eb_or; trivial; intro _; trivial)
  | (apply eb_not; trivial)
  | (apply ep_ifT; trivial; rfl; trivial) | (apply ep_ifF; trivial; rfl; trivial)
  | (apply ep_ifI; trivial; intro _; trivial; intro _; trivial) | (apply ep_ifL; trivial; intro _; trivial; intro _; trivial)
  | (apply ep_isi_int; trivial; first | rfl | assumption) | (apply ep_isi_bool; trivial; first | rfl | assumption) | (apply ep_isi_tuple; trivial; first | rfl | assumption) | (apply ep_isi_str; trivial; first | rfl | assumption)
  | (apply ep_isi_list; trivial; first | rfl | assumption) | (apply ep_isi_lt; trivial; first | rfl | assumption))
local macro_rules | `(tactic| trivial) => `(tactic| (apply ca_is_integer; trivial; first | rfl | assumption))
local macro_rules | `(tactic| trivial) => `(tactic| (apply ca_is_count; trivial))
local macro_rules | `(tactic| trivial) => `(tactic| (apply ca_is_between; trivial; first | rfl | assumption))
local macro_rules | `(tactic| trivial) => `(tactic| (apply ca_is_color; trivial; first | rfl | assumption))
local macro_rules | `(tactic| trivial) => `(tactic| (apply ca_other_color; trivial))
local macro_rules | `(tactic| trivial) => `(tactic| (apply ca_counts_of; trivial))
local macro_rules | `(tactic| trivial) => `(tactic| (apply ca_outside_in; trivial; first | assumption | exact .inl rfl | exact .inr rfl))
local macro_rules | `(tactic| trivial) => `(tactic| (apply ca_eye_in; trivial; first | assumption | exact .inl rfl | exact .inr rfl))
local macro_rules | `(tactic| trivial) => `(tactic| (apply ca_liberties_in; trivial; first | assumption | exact .inl rfl | exact .inr rfl))
theorem ca_result_behind {o : Option Str} (hh : EPs K t Γ M [nP n, .int k, wP o]) (hk : k = 1 ∨ k = 2) (hw : ∀ w, o = some w → Wd w) : Z.EP K (tCall (Sresult_behind K) [] E t) Γ M (.int (rbe n k o)) := ep_call hh (n, k, o) rfl ⟨hk, hw⟩ (fun _ h => h)
abbrev Sbest_in (K : PySem.W.Frag) : Sp := PC K (fun x : C5 × Int => [nP x.1, .int x.2]) (fun x => x.2 = 1 ∨ x.2 = 2) Rbest
theorem pl_best_in (n : C5) (k : Int) (hk : k = 1 ∨ k = 2) : SV K 0 (t_best_in K (Sother_color K) (Smoves_in K) (Sresult_behind K)) (startE 7 [.v (nP n), .v (.int k)]) [] { nx := fun _ _ => False, rt := fun M d => Rbest (n, k) M d } := by
  unfold t_best_in
  have wl := opts_len (n := n) (k := k)
  apply sv_seq; apply sv_set; trivial
  apply sv_seq; apply sv_set
  · apply ep_lcy (tgt_name (by decide)) (items := (opts n k).map wP) (v := vRow n k)
    · apply eip_seq
      · apply ep_lst
        · apply eps_star
          · apply ca_movesD; trivial; exact hk
          · rfl
          · apply eps_cons; trivial; exact eps_nil
        · rw [List.length_append, List.length_map]
          have h4 : (mv n k).length ≤ 3 := by unfold mv mvO mvS mvE; split <;> split <;> split <;> simp
          exact Nat.le_trans (Nat.add_le_add_right h4 _) (Nat.le_of_ble_eq_true rfl)
      · unfold opts
        rw [List.map_append, List.map_map]
        rfl
    · rw [List.length_map]; exact Nat.le_trans wl.2 (by decide)
    · intro i p hp
      obtain ⟨o, ho, rfl⟩ := at_opts hp
      apply gv_name
      rw [vRow_wP]
      apply ep_tup; apply eps_cons
      · apply ep_bmV; trivial; rfl; (apply eps_cons; (apply ca_result_behind; trivial; exact hk; exact opts_wd ho); exact eps_nil); (apply md_index rfl rfl; exact idx3 hk (rbe_in hk))
      · trivial
      · exact Nat.le_of_ble_eq_true rfl
  apply sv_seq; apply sv_set
  · apply ep_cb; apply eps_cons
    · apply ep_lcy (tgt_tup (tgts_cons (tgt_name (by decide)) (tgts_cons (tgt_name (by decide)) tgts_nil))) (items := rowsP n k) (v := vFst)
      · exact eip_seq (ep_var rfl) rfl
      · unfold rowsP; rw [List.length_map, List.length_map]; exact Nat.le_trans wl.2 (by decide)
      · intro i p hp
        obtain ⟨o, ho, rfl⟩ := at_rows hp
        apply gv_tup rfl; apply gvs_cons; apply gv_name; apply gvs_cons; apply gv_name; apply gvs_nil
        exact ep_var rfl
    · exact eps_nil
    · have e : (rowsP n k).map vFst = ((opts n k).map (ixw n k)).map P.int := by
        rw [rows_eq, List.map_map, List.map_map]
        rfl
      rw [e]
      exact rc_maxL (by rw [List.length_map]; exact wl.1)
  apply sv_ret; apply ev_cell
  refine (en_lcm (tgt_tup (tgts_cons (tgt_name (by decide)) (tgts_cons (tgt_name (by decide)) tgts_nil))) (items := rowsP n k) (eip_seq (ep_var rfl) rfl) (by unfold rowsP; rw [List.length_map, List.length_map]; exact Nat.le_trans wl.2 (by decide))
    (fMax (maxL ((opts n k).map (ixw n k)))) vSnd ?_).imp ?_
  · intro i p hp
    obtain ⟨o, ho, rfl⟩ := at_rows hp
    apply gv_tup rfl; apply gvs_cons; apply gv_name; apply gvs_cons; apply gv_name; apply gvs_nil
    exact ⟨eb_test (ep_op (ep_var rfl) (ep_var rfl) rv_eq_ii), fun _ => ep_var rfl⟩
  · rintro M' ds ⟨rfl, rfl⟩
    refine ⟨?_, rfl⟩
    have e : ((rowsP n k).filter (fMax (maxL ((opts n k).map (ixw n k))))).map vSnd = (bst n k).map wP := by
      unfold bst
      rw [rows_eq, List.filter_map, List.map_map]
      rfl
    rw [e, List.map_map]
    rfl
abbrev Sbest_race_moves (K : PySem.W.Frag) : Sp := PC K (fun x : C5 × Int => [rP K x.1, .int x.2]) (fun x => x.2 = 1 ∨ x.2 = 2) Rbest
theorem pl_best_race_moves (n : C5) (k : Int) (hk : k = 1 ∨ k = 2) : SV K 0 (t_best_race_moves K (Scheck_color K) (Sbest_in K) (Scounts_of K)) (startE 2 [.v (rP K n), .v (.int k)]) [] { nx := fun _ _ => False, rt := fun M d => Rbest (n, k) M d } := by
  unfold t_best_race_moves
  apply sv_seq; apply sv_drop; apply ev_ep; (apply ca_check_color; trivial; exact hk)
  apply sv_ret; apply ev_callC; apply ea_ep; trivial
  refine ⟨(n, k), rfl, hk, fun cs d ⟨e1, e2⟩ => ?_⟩
  subst e1 e2
  refine ⟨?_, rfl⟩
  show [MC.l ((optD (bst n k)).map (shD 0))] = _
  unfold optD
  rw [List.map_map]
  rfl
abbrev Soutside_to_take (K : PySem.W.Frag) : Sp := PF K (fun x : C5 × Int × Int => [rP K x.1, .int x.2.1, .int x.2.2]) (fun x => (x.2.1 = 1 ∨ x.2.1 = 2) ∧ (x.2.2 = 1 ∨ x.2.2 = 2)) (fun x r => r = .int (max 0 ((if x.2.1 = x.2.2 then 0 else 1) - lead x.1 x.2.1)))
theorem max_if (a b : Int) : (if b > a then b else a) = max a b := by
  by_cases h : b > a
  · rw [if_pos h]; omega
  · rw [if_neg h]; omega
theorem pl_outside_to_take (n : C5) (k f : Int) (hk : k = 1 ∨ k = 2) (hf : f = 1 ∨ f = 2) : SV K 0 (t_outside_to_take K (Scheck_color K) (Scheck_first K) (Slead_in K) (Scounts_of K)) (startE 3 [.v (rP K n), .v (.int k), .v (.int f)]) []
    (DR (· = .int (max 0 ((if k = f then 0 else 1) - lead n k)))) := by
  unfold t_outside_to_take
  apply sv_seq; apply sv_drop; apply ev_ep; (apply ca_check_color; trivial; exact hk)
  apply sv_seq; apply sv_drop; apply ev_ep; (apply ca_check_first'; trivial; exact hf)
  apply sv_retP
  · apply ep_cb; apply eps_cons; trivial; apply eps_cons
    · apply ep_op; trivial; (apply ca_lead_in; trivial; exact hk); exact rv_ii
    · exact eps_nil
    · exact rc_max2
  · apply fz_is
    rw [max_if]
    congr 2
    by_cases h : k = f <;> simp [h]
abbrev Soutside_to_stay (K : PySem.W.Frag) : Sp := PF K (fun x : C5 × Int × Int => [rP K x.1, .int x.2.1, .int x.2.2]) (fun x => (x.2.1 = 1 ∨ x.2.1 = 2) ∧ (x.2.2 = 1 ∨ x.2.2 = 2)) (fun x r => r = .int (max 0 (lead x.1 (3 - x.2.1) + (if x.2.1 = x.2.2 then 0 else 1))))
theorem pl_outside_to_stay (n : C5) (k f : Int) (hk : k = 1 ∨ k = 2) (hf : f = 1 ∨ f = 2) : SV K 0 (t_outside_to_stay K (Scheck_color K) (Scheck_first K) (Slead_in K) (Scounts_of K) (Sother_color K)) (startE 3 [.v (rP K n), .v (.int k), .v (.int f)]) []
    (DR (· = .int (max 0 (lead n (3 - k) + (if k = f then 0 else 1))))) := by
  unfold t_outside_to_stay
  have ho : 1 + 2 - k = 1 ∨ 1 + 2 - k = 2 := by omega
  apply sv_seq; apply sv_drop; apply ev_ep; (apply ca_check_color; trivial; exact hk)
  apply sv_seq; apply sv_drop; apply ev_ep; (apply ca_check_first'; trivial; exact hf)
  apply sv_retP
  · apply ep_cb; apply eps_cons; trivial; apply eps_cons
    · apply ep_op; (apply ca_lead_in; trivial; exact ho); trivial; exact rv_plus_i
    · exact eps_nil
    · exact rc_max2
  · apply fz_is
    rw [max_if]
    congr 2
    by_cases h : k = f <;> simp [h, e3]
end
end R35
set_option maxRecDepth 100000
set_option maxHeartbeats 4000000
namespace R35
open PySem PySem.Spec PyProof.Rows L2 Z
section
variable {K : PySem.W.Frag} {Γ : Z.Env} {M : Mem} {E : XK} {t : TA} {a b c d e i j h k : Int} {r : Bool} {p q : P} {ps qs : List P} {te : TE} {n : C5} {w : Str} {Φ : Mem → D → Prop}
local macro_rules | `(tactic| get_elem_tactic_trivial) => `(tactic| first
  | exact rv_plus_i | exact rv_ii | exact rv_ib | exact rv_eq_ii | exact rv_ne_ii | exact rv_eq_ss | exact rv_ne_ss | exact rv_eq_bb | exact rv_ne_bb | exact rv_ixT rfl | exact rv_ixL rfl
  | exact rv_plus_t (Nat.le_of_ble_eq_true rfl) | exact rv_plus_l (Nat.le_of_ble_eq_true rfl) | exact rv_plus_s (Nat.le_of_ble_eq_true rfl) | exact rv_isB | exact rv_inL rfl rfl | exact rv_inT rfl rfl | exact rv_ic (by decide))
local macro_rules | `(tactic| decreasing_trivial) => `(tactic| first
  | exact rc_len rfl | exact rc_int | exact rc_intB | exact rc_abs | exact rc_tupleL | exact rc_tupleT | exact rc_list rfl | exact rc_max2 | exact rc_min2)
local macro_rules | `(tactic| trivial) => `(tactic| first
  | exact ep_int | exact ep_str | exact ep_bl | exact ep_non
  | exact ep_var rfl
  | (apply ep_op; trivial; trivial; get_elem_tactic_trivial)
  | (apply ep_cb; trivial; decreasing_trivial)
  | (apply ep_andF; trivial; rfl)
  | (apply ep_andV; trivial; intro _; trivial)
  | (apply ep_orT; trivial; rfl)
  | (apply ep_orV; trivial; intro _; trivial)
  | (apply ep_notV; trivial)
  | (apply ep_isN; trivial) | (apply ep_notN; trivial)
  | (apply ep_un; trivial; exact ru_i)
  | (apply ep_tup; trivial; exact Nat.le_of_ble_eq_true rfl) | (apply ep_lst; trivial; exact Nat.le_of_ble_eq_true rfl)
  | (apply ep_chain; trivial; trivial; get_elem_tactic_trivial; intro _; trivial; intro _; get_elem_tactic_trivial)
  | exact eps_nil | (apply eps_cons; trivial; trivial) | (apply eps_star; trivial; rfl; trivial)
  | (apply ef_ep; trivial)
  | (apply eb_B; trivial) | (apply eb_test; trivial)
  | (apply eb_andF; trivial; rfl)
  | (apply eb_and; trivial; intro _; trivial)
  | (apply eb_orT; trivial; rfl)
  | (apply eb_or; trivial; intro _; trivial)
  | (apply eb_not; trivial)
  | (apply ep_ifT; trivial; rfl; trivial) | (apply ep_ifF; trivial; rfl; trivial)
  | (apply ep_ifI; trivial; intro _; trivial; intro _; trivial) | (apply ep_ifL; trivial; intro _; trivial; intro _; trivial)
  | (apply ep_isi_int; trivial; first | rfl | assumption) | (apply ep_isi_bool; trivial; first | rfl | assumption) | (apply ep_isi_tuple; trivial; first | rfl | assumption) | (apply ep_isi_str; trivial; first | rfl | assumption)
  | (apply ep_isi_list; trivial; first | rfl | assumption) | (apply ep_isi_lt; trivial; first | rfl | assumption))
local macro_rules | `(tactic| trivial) => `(tactic| (apply ca_is_integer; trivial; first | rfl | assumption))
local macro_rules | `(tactic| trivial) => `(tactic| (apply ca_is_count; trivial))
local macro_rules | `(tactic| trivial) => `(tactic| (apply ca_is_between; trivial; first | rfl | assumption))
local macro_rules | `(tactic| trivial) => `(tactic| (apply ca_is_color; trivial; first | rfl | assumption))
local macro_rules | `(tactic| trivial) => `(tactic| (apply ca_other_color; trivial))
local macro_rules | `(tactic| trivial) => `(tactic| (apply ca_counts_of; trivial))
local macro_rules | `(tactic| trivial) => `(tactic| (apply ca_outside_in; trivial; first | assumption | exact .inl rfl | exact .inr rfl))
local macro_rules | `(tactic| trivial) => `(tactic| (apply ca_eye_in; trivial; first | assumption | exact .inl rfl | exact .inr rfl))
local macro_rules | `(tactic| trivial) => `(tactic| (apply ca_liberties_in; trivial; first | assumption | exact .inl rfl | exact .inr rfl))
abbrev S_law_total (K : PySem.W.Frag) : Sp := PF K (fun x : C5 × Int => [nP x.1, .int x.2]) (fun x => x.2 = 1 ∨ x.2 = 2) (fun x r => r = .int (lib x.1 x.2))
theorem pl__law_total (n : C5) (k : Int) (hk : k = 1 ∨ k = 2) : SV K 0 (t__law_total K) (startE 2 [.v (nP n), .v (.int k)]) [] (DR (· = .int (lib n k))) := by
  unfold t__law_total
  rcases hk with rfl | rfl
  · apply sv_retP; trivial; exact fz_is rfl
  · apply sv_retP; trivial; exact fz_is rfl
theorem ca__law_total (hh : EPs K t Γ M [nP n, .int k]) (hk : k = 1 ∨ k = 2) : Z.EP K (tCall (S_law_total K) [] E t) Γ M (.int (lib n k)) := ep_call hh (n, k) rfl hk (fun _ h => h)
abbrev S_law_need (K : PySem.W.Frag) : Sp := PF K (fun x : C5 × Int => [nP x.1, .int x.2]) (fun x => 0 ≤ x.1.s ∧ (x.2 = 1 ∨ x.2 = 2)) (fun x r => r = .int (need x.1 x.2))
theorem pl__law_need (n : C5) (k : Int) (hs : 0 ≤ n.s) (hk : k = 1 ∨ k = 2) : SV K 0 (t__law_need K) (startE 4 [.v (nP n), .v (.int k)]) [] (DR (· = .int (need n k))) := by
  unfold t__law_need
  obtain ⟨na, nb, ns, nx, ny⟩ := n
  have h0 : 0 ≤ ns := hs
  rcases hk with rfl | rfl
  · apply sv_seq; apply sv_ifB; trivial
    · intro hb
      have h1 : ns = 0 := of_decide_eq_true hb
      apply sv_retP; trivial; apply fz_is; subst h1; simp [need, ey]; try omega
    · intro hb
      have h1 : ¬ ns = 0 := of_decide_eq_false hb
      apply sv_next; apply sv_seq; apply sv_par; apply ea_ep
      · apply eps_cons; trivial; apply eps_cons; trivial; exact eps_nil
      refine ⟨_, _, rfl, ?_⟩
      have hu : ∀ u v : Bool, decide (0 < nx) = u → decide (0 < ny) = v → SV K 0 (tSeq (tIfS (tTest (tOp (rEqA K) (tVar 2) (tVar 3))) (tRet (tIf (tB (tVar 2)) (tOp (rIx K) (tVar 0) (tC (.int 2))) (tOp (rI0 fun i j => .int (i - j)) (tOp (rIx K) (tVar 0) (tC (.int 2))) (tC (.int 1))))) tNext)
          (tRet (tIf (tB (tVar 2)) (tOp (rI0 fun i j => .int (i - j)) (tC (.int 0)) (tOp (rIx K) (tVar 0) (tC (.int 2)))) (tOp (rIx K) (tVar 0) (tC (.int 2))))))
          [some (.v (nP ⟨na, nb, ns, nx, ny⟩)), some (.v (.int 1)), some (.v (.bl u)), some (.v (.bl v))] [] (DR (· = .int (need ⟨na, nb, ns, nx, ny⟩ 1))) := by
        intro u v eu ev
        cases u <;> cases v
        · have g2 := of_decide_eq_false eu
          have g3 := of_decide_eq_false ev
          apply sv_seq; apply sv_ifT; trivial; rfl; apply sv_retP; trivial; apply fz_is; simp [need, ey]; grind
        · have g2 := of_decide_eq_false eu
          have g3 := of_decide_eq_true ev
          apply sv_seq; apply sv_ifF; trivial; rfl; apply sv_next; apply sv_retP; trivial; apply fz_is; simp [need, ey]; grind
        · have g2 := of_decide_eq_true eu
          have g3 := of_decide_eq_false ev
          apply sv_seq; apply sv_ifF; trivial; rfl; apply sv_next; apply sv_retP; trivial; apply fz_is; simp [need, ey]; grind
        · have g2 := of_decide_eq_true eu
          have g3 := of_decide_eq_true ev
          apply sv_seq; apply sv_ifT; trivial; rfl; apply sv_retP; trivial; apply fz_is; simp [need, ey]; grind
      exact hu _ _ rfl rfl
  · apply sv_seq; apply sv_ifB; trivial
    · intro hb
      have h1 : ns = 0 := of_decide_eq_true hb
      apply sv_retP; trivial; apply fz_is; subst h1; simp [need, ey]; try omega
    · intro hb
      have h1 : ¬ ns = 0 := of_decide_eq_false hb
      apply sv_next; apply sv_seq; apply sv_par; apply ea_ep
      · apply eps_cons; trivial; apply eps_cons; trivial; exact eps_nil
      refine ⟨_, _, rfl, ?_⟩
      have hu : ∀ u v : Bool, decide (0 < ny) = u → decide (0 < nx) = v → SV K 0 (tSeq (tIfS (tTest (tOp (rEqA K) (tVar 2) (tVar 3))) (tRet (tIf (tB (tVar 2)) (tOp (rIx K) (tVar 0) (tC (.int 2))) (tOp (rI0 fun i j => .int (i - j)) (tOp (rIx K) (tVar 0) (tC (.int 2))) (tC (.int 1))))) tNext)
          (tRet (tIf (tB (tVar 2)) (tOp (rI0 fun i j => .int (i - j)) (tC (.int 0)) (tOp (rIx K) (tVar 0) (tC (.int 2)))) (tOp (rIx K) (tVar 0) (tC (.int 2))))))
          [some (.v (nP ⟨na, nb, ns, nx, ny⟩)), some (.v (.int 2)), some (.v (.bl u)), some (.v (.bl v))] [] (DR (· = .int (need ⟨na, nb, ns, nx, ny⟩ 2))) := by
        intro u v eu ev
        cases u <;> cases v
        · have g2 := of_decide_eq_false eu
          have g3 := of_decide_eq_false ev
          apply sv_seq; apply sv_ifT; trivial; rfl; apply sv_retP; trivial; apply fz_is; simp [need, ey]; grind
        · have g2 := of_decide_eq_false eu
          have g3 := of_decide_eq_true ev
          apply sv_seq; apply sv_ifF; trivial; rfl; apply sv_next; apply sv_retP; trivial; apply fz_is; simp [need, ey]; grind
        · have g2 := of_decide_eq_true eu
          have g3 := of_decide_eq_false ev
          apply sv_seq; apply sv_ifF; trivial; rfl; apply sv_next; apply sv_retP; trivial; apply fz_is; simp [need, ey]; grind
        · have g2 := of_decide_eq_true eu
          have g3 := of_decide_eq_true ev
          apply sv_seq; apply sv_ifT; trivial; rfl; apply sv_retP; trivial; apply fz_is; simp [need, ey]; grind
      exact hu _ _ rfl rfl
theorem ca__law_need (hh : EPs K t Γ M [nP n, .int k]) (hs : 0 ≤ n.s) (hk : k = 1 ∨ k = 2) : Z.EP K (tCall (S_law_need K) [] E t) Γ M (.int (need n k)) := ep_call hh (n, k) rfl ⟨hs, hk⟩ (fun _ h => h)
abbrev S_law_lead (K : PySem.W.Frag) : Sp := PF K (fun x : C5 × Int => [nP x.1, .int x.2]) (fun x => 0 ≤ x.1.s ∧ (x.2 = 1 ∨ x.2 = 2)) (fun x r => r = .int (lead x.1 x.2))
theorem pl__law_lead (n : C5) (k : Int) (hs : 0 ≤ n.s) (hk : k = 1 ∨ k = 2) : SV K 0 (t__law_lead K (S_law_need K)) (startE 2 [.v (nP n), .v (.int k)]) [] (DR (· = .int (lead n k))) := by
  unfold t__law_lead
  rcases hk with rfl | rfl
  · apply sv_retP; (apply ep_op; trivial; (apply ca__law_need; trivial; exact hs; exact .inl rfl); exact rv_ii); apply fz_is; rfl
  · apply sv_retP; (apply ep_op; trivial; (apply ca__law_need; trivial; exact hs; exact .inr rfl); exact rv_ii); apply fz_is; rfl
theorem ca__law_lead (hh : EPs K t Γ M [nP n, .int k]) (hs : 0 ≤ n.s) (hk : k = 1 ∨ k = 2) : Z.EP K (tCall (S_law_lead K) [] E t) Γ M (.int (lead n k)) := ep_call hh (n, k) rfl ⟨hs, hk⟩ (fun _ h => h)
abbrev S_law_result (K : PySem.W.Frag) : Sp := PF K (fun x : C5 × Int => [nP x.1, .int x.2]) (fun x => 0 ≤ x.1.s ∧ (x.2 = 1 ∨ x.2 = 2)) (fun x r => r = .int (rsl x.1 x.2))
theorem pl__law_result (n : C5) (k : Int) (hs : 0 ≤ n.s) (hk : k = 1 ∨ k = 2) : SV K 0 (t__law_result K (S_law_lead K)) (startE 2 [.v (nP n), .v (.int k)]) [] (DR (· = .int (rsl n k))) := by
  unfold t__law_result
  have ho : 3 - k = 1 ∨ 3 - k = 2 := by omega
  apply sv_seq; apply sv_ifB; (apply eb_test; apply ep_op; (apply ca__law_lead; trivial; exact hs; exact hk); trivial; exact rv_ib)
  · intro hb
    apply sv_retP; trivial; apply fz_is; unfold rsl; rw [if_pos (of_decide_eq_true hb)]
  · intro hb
    apply sv_next; apply sv_retP; (apply ep_ifI; apply eb_test; apply ep_op; (apply ca__law_lead; trivial; exact hs; exact ho); trivial; exact rv_ib; intro _; trivial; intro _; trivial); apply fz_is
    unfold rsl
    rw [if_neg (of_decide_eq_false hb)]
    congr 1
    by_cases h2 : 1 ≤ lead n (3 - k)
    · rw [if_pos h2, if_pos (decide_eq_true h2)]
    · rw [if_neg h2, if_neg (show ¬ decide (1 ≤ lead n (3 - k)) = true from fun z => h2 (of_decide_eq_true z))]
theorem ca__law_result (hh : EPs K t Γ M [nP n, .int k]) (hs : 0 ≤ n.s) (hk : k = 1 ∨ k = 2) : Z.EP K (tCall (S_law_result K) [] E t) Γ M (.int (rsl n k)) := ep_call hh (n, k) rfl ⟨hs, hk⟩ (fun _ h => h)
end
end R35
set_option maxRecDepth 100000
set_option maxHeartbeats 4000000
namespace R35
open PySem PySem.Spec PyProof.Rows L2 Z
section
variable {K : PySem.W.Frag} {Γ : Z.Env} {M : Mem} {E : XK} {t : TA} {a b c d e i j h k : Int} {r : Bool} {p q : P} {ps qs : List P} {te : TE} {n : C5} {w : Str} {Φ : Mem → D → Prop}
local macro_rules | `(tactic| get_elem_tactic_trivial) => `(tactic| first
  | exact rv_plus_i | exact rv_ii | exact rv_ib | exact rv_eq_ii | exact rv_ne_ii | exact rv_eq_ss | exact rv_ne_ss | exact rv_eq_bb | exact rv_ne_bb | exact rv_ixT rfl | exact rv_ixL rfl
  | exact rv_plus_t (Nat.le_of_ble_eq_true rfl) | exact rv_plus_l (Nat.le_of_ble_eq_true rfl) | exact rv_plus_s (Nat.le_of_ble_eq_true rfl) | exact rv_isB | exact rv_inL rfl rfl | exact rv_inT rfl rfl | exact rv_ic (by decide))
local macro_rules | `(tactic| decreasing_trivial) => `(tactic| first
  | exact rc_len rfl | exact rc_int | exact rc_intB | exact rc_abs | exact rc_tupleL | exact rc_tupleT | exact rc_list rfl | exact rc_max2 | exact rc_min2)
local macro_rules | `(tactic| trivial) => `(tactic| first
  | exact ep_int | exact ep_str | exact ep_bl | exact ep_non
  | exact ep_var rfl
  | (apply ep_op; trivial; trivial; get_elem_tactic_trivial)
  | (apply ep_cb; trivial; decreasing_trivial)
  | (apply ep_andF; trivial; rfl)
  | (apply ep_andV; trivial; intro _; trivial)
  | (apply ep_orT; trivial; rfl)
  | (apply ep_orV; trivial; intro _; trivial)
  | (apply ep_notV; trivial)
  | (apply ep_isN; trivial) | (apply ep_notN; trivial)
  | (apply ep_un; trivial; exact ru_i)
  | (apply ep_tup; trivial; exact Nat.le_of_ble_eq_true rfl) | (apply ep_lst; trivial; exact Nat.le_of_ble_eq_true rfl)
  | (apply ep_chain; trivial; trivial; get_elem_tactic_trivial; intro _; trivial; intro _; get_elem_tactic_trivial)
  | exact eps_nil | (apply eps_cons; trivial; trivial) | (apply eps_star; trivial; rfl; trivial)
  | (apply ef_ep; trivial)
  | (apply eb_B; trivial) | (apply eb_test; trivial)
  | (apply eb_andF; trivial; rfl)
  | (apply eb_and; trivial; intro _; trivial)
  | (apply eb_orT; trivial; rfl)
  | (apply eb_or; trivial; intro _; trivial)
  | (apply eb_not; trivial)
  | (apply ep_ifT; trivial; rfl; trivial) | (apply ep_ifF; trivial; rfl; trivial)
  | (apply ep_ifI; trivial; intro _; trivial; intro _; trivial) | (apply ep_ifL; trivial; intro _; trivial; intro _; trivial)
  | (apply ep_isi_int; trivial; first | rfl | assumption) | (apply ep_isi_bool; trivial; first | rfl | assumption) | (apply ep_isi_tuple; trivial; first | rfl | assumption) | (apply ep_isi_str; trivial; first | rfl | assumption)
  | (apply ep_isi_list; trivial; first | rfl | assumption) | (apply ep_isi_lt; trivial; first | rfl | assumption))
local macro_rules | `(tactic| trivial) => `(tactic| (apply ca_is_integer; trivial; first | rfl | assumption))
local macro_rules | `(tactic| trivial) => `(tactic| (apply ca_is_count; trivial))
local macro_rules | `(tactic| trivial) => `(tactic| (apply ca_is_between; trivial; first | rfl | assumption))
local macro_rules | `(tactic| trivial) => `(tactic| (apply ca_is_color; trivial; first | rfl | assumption))
local macro_rules | `(tactic| trivial) => `(tactic| (apply ca_other_color; trivial))
local macro_rules | `(tactic| trivial) => `(tactic| (apply ca_counts_of; trivial))
local macro_rules | `(tactic| trivial) => `(tactic| (apply ca_outside_in; trivial; first | assumption | exact .inl rfl | exact .inr rfl))
local macro_rules | `(tactic| trivial) => `(tactic| (apply ca_eye_in; trivial; first | assumption | exact .inl rfl | exact .inr rfl))
local macro_rules | `(tactic| trivial) => `(tactic| (apply ca_liberties_in; trivial; first | assumption | exact .inl rfl | exact .inr rfl))
def val (r k : Int) : Int := if r = k then 2 else if r = 0 then 1 else 0
abbrev S_law_value (K : PySem.W.Frag) : Sp := PF K (fun x : Int × Int => [.int x.1, .int x.2]) (fun x => True) (fun x r => r = .int (val x.1 x.2))
theorem pl__law_value (r k : Int) : SV K 0 (t__law_value K) (startE 2 [.v (.int r), .v (.int k)]) [] (DR (· = .int (val r k))) := by
  unfold t__law_value
  apply sv_retP
  · apply ep_ifI; trivial
    · intro _; trivial
    · intro _; apply ep_ifI; trivial; intro _; trivial; intro _; trivial
  · apply fz_is
    unfold val
    by_cases h1 : r = k <;> by_cases h2 : r = 0 <;> simp [h1, h2]
theorem ca__law_value {r k : Int} (hh : EPs K t Γ M [.int r, .int k]) : Z.EP K (tCall (S_law_value K) [] E t) Γ M (.int (val r k)) := ep_call hh (r, k) rfl True.intro (fun _ h => h)
theorem oc_ix (hk : k = 1 ∨ k = 2) {Γ : Z.Env} {M : Mem} (h0 : Γ[0]? = some (some (.v (nP n)))) (h3 : Γ[3]? = some (some (.v (.int (3 - k))))) : Z.EP K (tOp (rIx K) (tVar 0) (tOp (rI0 fun i j => .int (i - j)) (tVar 3) (tC (.int 1)))) Γ M (.int (oc n (3 - k))) := by
  rcases hk with rfl | rfl
  · apply ep_op; exact ep_var h0; (apply ep_op; exact ep_var h3; trivial; exact rv_ii); exact rv_ixT rfl
  · apply ep_op; exact ep_var h0; (apply ep_op; exact ep_var h3; trivial; exact rv_ii); exact rv_ixT rfl
theorem ey_ix (hk : k = 1 ∨ k = 2) {Γ : Z.Env} {M : Mem} (h0 : Γ[0]? = some (some (.v (nP n)))) (h3 : Γ[3]? = some (some (.v (.int (3 - k))))) : Z.EP K (tOp (rIx K) (tVar 0) (tOp (rPlus K) (tC (.int 2)) (tVar 3))) Γ M (.int (ey n (3 - k))) := by
  rcases hk with rfl | rfl
  · apply ep_op; exact ep_var h0; (apply ep_op; trivial; exact ep_var h3; exact rv_plus_i); exact rv_ixT rfl
  · apply ep_op; exact ep_var h0; (apply ep_op; trivial; exact ep_var h3; exact rv_plus_i); exact rv_ixT rfl
abbrev S_law_words (K : PySem.W.Frag) : Sp := PC K (fun x : C5 × Int => [nP x.1, .int x.2]) (fun x => x.2 = 1 ∨ x.2 = 2) Rmv
theorem pl__law_words (n : C5) (k : Int) (hk : k = 1 ∨ k = 2) : SV K 0 (t__law_words K (S_law_total K)) (startE 4 [.v (nP n), .v (.int k)]) [] { nx := fun _ _ => False, rt := fun M d => Rmv (n, k) M d } := by
  unfold t__law_words
  have ho : 3 - k = 1 ∨ 3 - k = 2 := by omega
  apply sv_seq; apply sv_par; apply ea_cons; apply ev_cell; apply en_lst; apply ea_nil; refine ⟨by decide, ?_⟩; apply ea_cons; apply ev_ep; trivial; apply ea_nil; refine ⟨_, _, rfl, ?_⟩
  have app : ∀ (l : List Str) (w : Str) (G : Z.Env) (E : DE), l.length < 10 → G[2]? = some (some (.c 0)) → E.nx G [.l (strD (l ++ [w]))] → SV K 0 (tDrop (tBM K "list" rAppend (tVar 2) (tCons (tC (.str w)) tNil))) G [.l (strD l)] E := by
    intro l w G E hl g hE
    apply sv_drop; apply ev_bm; apply ev_var g; refine ⟨0, _, rfl, rfl, ?_⟩
    apply ea_ep; apply eps_cons; exact ep_str; exact eps_nil
    refine ⟨_, _, _, rfl, mv_append (by unfold strD; rw [List.length_map]; omega), ?_⟩
    have e : strD l ++ [D.v (.str w)] = strD (l ++ [w]) := by unfold strD; rw [List.map_append]; rfl
    show E.nx G [.l (strD l ++ [.v (.str w)])]
    rw [e]
    exact hE
  have fin : SV K 0 (tRet (tVar 2)) [some (.v (nP n)), some (.v (.int k)), some (.c 0), some (.v (.int (3 - k)))] [.l (strD (mv n k))] { nx := fun _ _ => False, rt := fun M d => Rmv (n, k) M d } := by
    apply sv_ret; apply ev_var rfl; exact ⟨rfl, rfl⟩
  have s3 : ∀ l, l = mvO n k ++ mvS n k → l.length < 9 → SV K 0 (tSeq (tIfS (tOr (tTest (tOp (rI0 fun i j => .bl (decide (j < i))) (tOp (rIx K) (tVar 0) (tOp (rPlus K) (tC (.int 2)) (tVar 3))) (tC (.int 1)))) (tAnd (tTest (tOp (rEqA K) (tOp (rIx K) (tVar 0) (tOp (rPlus K) (tC (.int 2)) (tVar 3))) (tC (.int 1)))) (tTest (tOp (rEqA K) (tCall (S_law_total K) [] E0 (tCons (tVar 0) (tCons (tVar 3) tNil))) (tC (.int 1)))))) (tDrop (tBM K "list" rAppend (tVar 2) (tCons (tC (.str "eye")) tNil))) tNext) (tRet (tVar 2)))
      [some (.v (nP n)), some (.v (.int k)), some (.c 0), some (.v (.int (3 - k)))] [.l (strD l)] { nx := fun _ _ => False, rt := fun M d => Rmv (n, k) M d } := by
    intro l hl hlen
    apply sv_seq; apply sv_ifB
    · apply eb_or; (apply eb_test; apply ep_op; exact ey_ix hk rfl rfl; trivial; exact rv_ib); intro _; apply eb_and; (apply eb_test; apply ep_op; exact ey_ix hk rfl rfl; trivial; exact rv_eq_ii); intro _; (apply eb_test; apply ep_op; (apply ca__law_total; trivial; exact ho); trivial; exact rv_eq_ii)
    · intro hb
      have hc : mvE n k = (["eye"] : List Str) := by
        unfold mvE
        rw [if_pos]
        simpa using hb
      apply app l "eye" _ _ (by omega) rfl
      have e : l ++ (["eye"] : List Str) = mv n k := by unfold mv; rw [hl, hc]
      show SV K 0 _ _ [.l (strD (l ++ (["eye"] : List Str)))] _
      rw [e]
      exact fin
    · intro hb
      have hc : mvE n k = [] := by
        unfold mvE
        rw [if_neg]
        simpa using hb
      apply sv_next
      have e : l = mv n k := by unfold mv; rw [hc, List.append_nil, hl]
      rw [e]
      exact fin
  have s2 : ∀ l, l = mvO n k → l.length < 8 → SV K 0 (tSeq (tIfS (tAnd (tTest (tOp (rI0 fun i j => .bl (decide (j < i))) (tOp (rIx K) (tVar 0) (tC (.int 2))) (tC (.int 0)))) (tOr (tTest (tOp (rI0 fun i j => .bl (decide (j < i))) (tCall (S_law_total K) [] E0 (tCons (tVar 0) (tCons (tVar 1) tNil))) (tC (.int 1)))) (tTest (tOp (rEqA K) (tCall (S_law_total K) [] E0 (tCons (tVar 0) (tCons (tVar 3) tNil))) (tC (.int 1)))))) (tDrop (tBM K "list" rAppend (tVar 2) (tCons (tC (.str "shared")) tNil))) tNext)
      (tSeq (tIfS (tOr (tTest (tOp (rI0 fun i j => .bl (decide (j < i))) (tOp (rIx K) (tVar 0) (tOp (rPlus K) (tC (.int 2)) (tVar 3))) (tC (.int 1)))) (tAnd (tTest (tOp (rEqA K) (tOp (rIx K) (tVar 0) (tOp (rPlus K) (tC (.int 2)) (tVar 3))) (tC (.int 1)))) (tTest (tOp (rEqA K) (tCall (S_law_total K) [] E0 (tCons (tVar 0) (tCons (tVar 3) tNil))) (tC (.int 1)))))) (tDrop (tBM K "list" rAppend (tVar 2) (tCons (tC (.str "eye")) tNil))) tNext) (tRet (tVar 2))))
      [some (.v (nP n)), some (.v (.int k)), some (.c 0), some (.v (.int (3 - k)))] [.l (strD l)] { nx := fun _ _ => False, rt := fun M d => Rmv (n, k) M d } := by
    intro l hl hlen
    apply sv_seq; apply sv_ifB
    · apply eb_and; trivial; intro _; apply eb_or; (apply eb_test; apply ep_op; (apply ca__law_total; trivial; exact hk); trivial; exact rv_ib); intro _; (apply eb_test; apply ep_op; (apply ca__law_total; trivial; exact ho); trivial; exact rv_eq_ii)
    · intro hb
      have hc : mvS n k = (["shared"] : List Str) := by
        unfold mvS
        rw [if_pos]
        have h2 : 0 < n.s ∧ (1 < lib n k ∨ lib n (3 - k) = 1) := by simpa using hb
        exact ⟨h2.1, h2.2.symm⟩
      apply app l "shared" _ _ (by omega) rfl
      exact s3 _ (by rw [hl, hc]) (by simp; omega)
    · intro hb
      have hc : mvS n k = [] := by
        unfold mvS
        rw [if_neg]
        intro h2
        have h3 : (decide (0 < n.s) && (decide (1 < lib n k) || decide (lib n (3 - k) = 1))) = true := by
          rw [decide_eq_true h2.1]
          rcases h2.2 with h4 | h4
          · rw [decide_eq_true h4, Bool.or_true]; rfl
          · rw [decide_eq_true h4]; rfl
        exact absurd (h3.symm.trans hb) (by decide)
      apply sv_next
      exact s3 _ (by rw [hl, hc, List.append_nil]) (by omega)
  apply sv_seq; apply sv_ifB
  · apply eb_test; apply ep_op; exact oc_ix hk rfl rfl; trivial; exact rv_ib
  · intro hb
    have hc : mvO n k = (["outside"] : List Str) := by
      unfold mvO
      rw [if_pos]
      simpa using hb
    apply app [] "outside" _ _ (by decide) rfl
    exact s2 _ hc.symm (by decide)
  · intro hb
    have hc : mvO n k = [] := by
      unfold mvO
      rw [if_neg]
      simpa using hb
    apply sv_next
    exact s2 _ hc.symm (by decide)
end
end R35
set_option maxRecDepth 100000
set_option maxHeartbeats 4000000
namespace R35
open PySem PySem.Spec PyProof.Rows L2 Z
section
variable {K : PySem.W.Frag} {Γ : Z.Env} {M : Mem} {E : XK} {t : TA} {a b c d e i j h k : Int} {r : Bool} {p q : P} {ps qs : List P} {te : TE} {n : C5} {w : Str} {Φ : Mem → D → Prop}
local macro_rules | `(tactic| get_elem_tactic_trivial) => `(tactic| first
  | exact rv_plus_i | exact rv_ii | exact rv_ib | exact rv_eq_ii | exact rv_ne_ii | exact rv_eq_ss | exact rv_ne_ss | exact rv_eq_bb | exact rv_ne_bb | exact rv_ixT rfl | exact rv_ixL rfl
  | exact rv_plus_t (Nat.le_of_ble_eq_true rfl) | exact rv_plus_l (Nat.le_of_ble_eq_true rfl) | exact rv_plus_s (Nat.le_of_ble_eq_true rfl) | exact rv_isB | exact rv_inL rfl rfl | exact rv_inT rfl rfl | exact rv_ic (by decide))
local macro_rules | `(tactic| decreasing_trivial) => `(tactic| first
  | exact rc_len rfl | exact rc_int | exact rc_intB | exact rc_abs | exact rc_tupleL | exact rc_tupleT | exact rc_list rfl | exact rc_max2 | exact rc_min2)
local macro_rules | `(tactic| trivial) => `(tactic| first
  | exact ep_int | exact ep_str | exact ep_bl | exact ep_non
  | exact ep_var rfl
  | (apply ep_op; trivial; trivial; get_elem_tactic_trivial)
  | (apply ep_cb; trivial; decreasing_trivial)
  | (apply ep_andF; trivial; rfl)
  | (apply ep_andV; trivial; intro _; trivial)
  | (apply ep_orT; trivial; rfl)
  | (apply ep_orV; trivial; intro _; trivial)
  | (apply ep_notV; trivial)
  | (apply ep_isN; trivial) | (apply ep_notN; trivial)
  | (apply ep_un; trivial; exact ru_i)
  | (apply ep_tup; trivial; exact Nat.le_of_ble_eq_true rfl) | (apply ep_lst; trivial; exact Nat.le_of_ble_eq_true rfl)
  | (apply ep_chain; trivial; trivial; get_elem_tactic_trivial; intro _; trivial; intro _; get_elem_tactic_trivial)
  | exact eps_nil | (apply eps_cons; trivial; trivial) | (apply eps_star; trivial; rfl; trivial)
  | (apply ef_ep; trivial)
  | (apply eb_B; trivial) | (apply eb_test; trivial)
  | (apply eb_andF; trivial; rfl)
  | (apply eb_and; trivial; intro _; trivial)
  | (apply eb_orT; trivial; rfl)
  | (apply eb_or; trivial; intro _; trivial)
  | (apply eb_not; trivial)
  | (apply ep_ifT; trivial; rfl; trivial) | (apply ep_ifF; trivial; rfl; trivial)
  | (apply ep_ifI; trivial; intro _; trivial; intro _; trivial) | (apply ep_ifL; trivial; intro _; trivial; intro _; trivial)
  | (apply ep_isi_int; trivial; first | rfl | assumption) | (apply ep_isi_bool; trivial; first | rfl | assumption) | (apply ep_isi_tuple; trivial; first | rfl | assumption) | (apply ep_isi_str; trivial; first | rfl | assumption)
  | (apply ep_isi_list; trivial; first | rfl | assumption) | (apply ep_isi_lt; trivial; first | rfl | assumption))
local macro_rules | `(tactic| trivial) => `(tactic| (apply ca_is_integer; trivial; first | rfl | assumption))
local macro_rules | `(tactic| trivial) => `(tactic| (apply ca_is_count; trivial))
local macro_rules | `(tactic| trivial) => `(tactic| (apply ca_is_between; trivial; first | rfl | assumption))
local macro_rules | `(tactic| trivial) => `(tactic| (apply ca_is_color; trivial; first | rfl | assumption))
local macro_rules | `(tactic| trivial) => `(tactic| (apply ca_other_color; trivial))
local macro_rules | `(tactic| trivial) => `(tactic| (apply ca_counts_of; trivial))
local macro_rules | `(tactic| trivial) => `(tactic| (apply ca_outside_in; trivial; first | assumption | exact .inl rfl | exact .inr rfl))
local macro_rules | `(tactic| trivial) => `(tactic| (apply ca_eye_in; trivial; first | assumption | exact .inl rfl | exact .inr rfl))
local macro_rules | `(tactic| trivial) => `(tactic| (apply ca_liberties_in; trivial; first | assumption | exact .inl rfl | exact .inr rfl))
theorem ep_cast (h : Z.EP K te Γ M p) (e : p = q) : Z.EP K te Γ M q := e ▸ h
def bhP (n : C5) (k : Int) (w : Str) : P := if lib (bhd n k w) (3 - k) = 0 then .non else nP (bhd n k w)
abbrev S_law_behind (K : PySem.W.Frag) : Sp := PF K (fun x : C5 × Int × Str => [nP x.1, .int x.2.1, .str x.2.2]) (fun x => (x.2.1 = 1 ∨ x.2.1 = 2) ∧ Wd x.2.2) (fun x r => r = bhP x.1 x.2.1 x.2.2)
theorem pl__law_behind (n : C5) (k : Int) (w : Str) (hk : k = 1 ∨ k = 2) (hw : Wd w) : SV K 0 (t__law_behind K (S_law_total K)) (startE 5 [.v (nP n), .v (.int k), .v (.str w)]) [] (DR (· = bhP n k w)) := by
  unfold t__law_behind
  have ho : 3 - k = 1 ∨ 3 - k = 2 := by omega
  have fin : ∀ m pl, SV K 0 (tRet (tIf (tTest (tOp (rEqA K) (tCall (S_law_total K) [] E0 (tCons (tVar 4) (tCons (tOp (rI0 fun i j => .int (i - j)) (tC (.int 3)) (tVar 1)) tNil))) (tC (.int 0)))) (tC .non) (tVar 4)))
      [some (.v (nP n)), some (.v (.int k)), some (.v (.str w)), some (.v (.int pl)), some (.v (nP m))] [] (DR (· = if lib m (3 - k) = 0 then P.non else nP m)) := by
    intro m pl
    by_cases h : lib m (3 - k) = 0
    · rw [if_pos h]
      apply sv_retP; (apply ep_ifT; (apply eb_test; apply ep_op; (apply ca__law_total; trivial; exact ho); trivial; exact rv_eq_ii); exact decide_eq_true h; trivial); exact fz_is rfl
    · rw [if_neg h]
      apply sv_retP; (apply ep_ifF; (apply eb_test; apply ep_op; (apply ca__law_total; trivial; exact ho); trivial; exact rv_eq_ii); exact decide_eq_false h; trivial); exact fz_is rfl
  have dd : ∀ (i : Nat) (z : Int), (([("outside", P.int (2 - k)), ("shared", P.int 2), ("eye", P.int (5 - k))] : List (Str × P)).map (·.2))[i]? = some (.int z) →
      (∀ vs : List V, vs.length = 3 → ∃ v, vs[i]? = some v ∧ valV (mergeK [] (kvz ([("outside", P.int (2 - k)), ("shared", P.int 2), ("eye", P.int (5 - k))] : List (Str × P)) vs)) (.inr w) = some v) →
      Z.EP K (tDGet (tDisp [((tC (.str "outside")), (tOp (rI0 fun i j => .int (i - j)) (tC (.int 2)) (tVar 1))), ((tC (.str "shared")), (tC (.int 2))), ((tC (.str "eye")), (tOp (rI0 fun i j => .int (i - j)) (tC (.int 5)) (tVar 1)))]) (tVar 2)) (startE 5 [.v (nP n), .v (.int k), .v (.str w)]) [] (.int z) := by
    intro i z hz hs
    exact ep_dlit (kps := [("outside", P.int (2 - k)), ("shared", P.int 2), ("eye", P.int (5 - k))]) ⟨rfl, ep_op ep_int (ep_var rfl) rv_ii, rfl, ep_int, rfl, ep_op ep_int (ep_var rfl) rv_ii, True.intro⟩ (ep_var rfl) (Nat.le_of_ble_eq_true rfl) hz hs
  have cut : ∀ (z x : Int) (m : C5), atI (iP5 n) z = some (.int x) → P.tup (cutP (iP5 n) none (some z) ++ [.int (x - 1)] ++ cutP (iP5 n) (some (z + 1)) none) = nP m →
      (cutP (iP5 n) none (some z)).length + 1 ≤ 5 → (cutP (iP5 n) (some (z + 1)) none).length ≤ 5 →
      Z.EP K (tOp (rPlus K) (tOp (rPlus K) (tSl (rSlSeq K) (tVar 0) tNoPart (tPart (tVar 3))) (tTup (tCons (tOp (rI0 fun i j => .int (i - j)) (tOp (rIx K) (tVar 0) (tVar 3)) (tC (.int 1))) tNil))) (tSl (rSlSeq K) (tVar 0) (tPart (tOp (rPlus K) (tVar 3) (tC (.int 1)))) tNoPart))
        [some (.v (nP n)), some (.v (.int k)), some (.v (.str w)), some (.v (.int z)), none] [] (nP m) := by
    intro z x m h1 h2 h3 h4
    have hsz : 20 ≤ sizeLine := Nat.le_of_ble_eq_true rfl
    refine ep_cast ?_ h2
    apply ep_op
    · apply ep_op
      · exact ep_sl (ep_var rfl) eo_none (eo_some (ep_var rfl)) slv_t
      · apply ep_tup; apply eps_cons; (apply ep_op; (apply ep_op; exact ep_var rfl; exact ep_var rfl; exact rv_ixT h1); exact ep_int; exact rv_ii); exact eps_nil; exact Nat.le_of_ble_eq_true rfl
      · exact rv_plus_t (by simp; omega)
    · exact ep_sl (ep_var rfl) (eo_some (ep_op (ep_var rfl) ep_int rv_plus_i)) eo_none slv_t
    · exact rv_plus_t (by simp; omega)
  rcases hk with rfl | rfl <;> rcases hw with rfl | rfl | rfl
  · apply sv_seq; apply sv_set
    · exact dd 0 1 rfl (fun vs hv => match vs, hv with | [v1, v2, v3], _ => ⟨v1, rfl, rfl⟩)
    · apply sv_seq; apply sv_set
      · exact cut 1 _ (les n 1) rfl (by simp [nP, iP5, les, cutP]; try rfl) (Nat.le_of_ble_eq_true rfl) (Nat.le_of_ble_eq_true rfl)
      · exact fin (les n 1) _
  · apply sv_seq; apply sv_set
    · exact dd 1 2 rfl (fun vs hv => match vs, hv with | [v1, v2, v3], _ => ⟨v2, rfl, rfl⟩)
    · apply sv_seq; apply sv_set
      · exact cut 2 _ (les n 2) rfl (by simp [nP, iP5, les, cutP]; try rfl) (Nat.le_of_ble_eq_true rfl) (Nat.le_of_ble_eq_true rfl)
      · exact fin (les n 2) _
  · apply sv_seq; apply sv_set
    · exact dd 2 4 rfl (fun vs hv => match vs, hv with | [v1, v2, v3], _ => ⟨v3, rfl, rfl⟩)
    · apply sv_seq; apply sv_set
      · exact cut 4 _ (les n 4) rfl (by simp [nP, iP5, les, cutP]; try rfl) (Nat.le_of_ble_eq_true rfl) (Nat.le_of_ble_eq_true rfl)
      · exact fin (les n 4) _
  · apply sv_seq; apply sv_set
    · exact dd 0 0 rfl (fun vs hv => match vs, hv with | [v1, v2, v3], _ => ⟨v1, rfl, rfl⟩)
    · apply sv_seq; apply sv_set
      · exact cut 0 _ (les n 0) rfl (by simp [nP, iP5, les, cutP]; try rfl) (Nat.le_of_ble_eq_true rfl) (Nat.le_of_ble_eq_true rfl)
      · exact fin (les n 0) _
  · apply sv_seq; apply sv_set
    · exact dd 1 2 rfl (fun vs hv => match vs, hv with | [v1, v2, v3], _ => ⟨v2, rfl, rfl⟩)
    · apply sv_seq; apply sv_set
      · exact cut 2 _ (les n 2) rfl (by simp [nP, iP5, les, cutP]; try rfl) (Nat.le_of_ble_eq_true rfl) (Nat.le_of_ble_eq_true rfl)
      · exact fin (les n 2) _
  · apply sv_seq; apply sv_set
    · exact dd 2 3 rfl (fun vs hv => match vs, hv with | [v1, v2, v3], _ => ⟨v3, rfl, rfl⟩)
    · apply sv_seq; apply sv_set
      · exact cut 3 _ (les n 3) rfl (by simp [nP, iP5, les, cutP]; try rfl) (Nat.le_of_ble_eq_true rfl) (Nat.le_of_ble_eq_true rfl)
      · exact fin (les n 3) _
theorem ca__law_behind (hh : EPs K t Γ M [nP n, .int k, .str w]) (hk : k = 1 ∨ k = 2) (hw : Wd w) : Z.EP K (tCall (S_law_behind K) [] E t) Γ M (bhP n k w) := ep_call hh (n, k, w) rfl ⟨hk, hw⟩ (fun _ h => h)
end
end R35
set_option maxRecDepth 100000
set_option maxHeartbeats 4000000
namespace R35
open PySem PySem.Spec PyProof.Rows L2 Z
section
variable {K : PySem.W.Frag} {Γ : Z.Env} {M : Mem} {E : XK} {t : TA} {a b c d e i j h k : Int} {r : Bool} {p q : P} {ps qs : List P} {te : TE} {n : C5} {w : Str} {Φ : Mem → D → Prop}
local macro_rules | `(tactic| get_elem_tactic_trivial) => `(tactic| first
  | exact rv_plus_i | exact rv_ii | exact rv_ib | exact rv_eq_ii | exact rv_ne_ii | exact rv_eq_ss | exact rv_ne_ss | exact rv_eq_bb | exact rv_ne_bb | exact rv_ixT rfl | exact rv_ixL rfl
  | exact rv_plus_t (Nat.le_of_ble_eq_true rfl) | exact rv_plus_l (Nat.le_of_ble_eq_true rfl) | exact rv_plus_s (Nat.le_of_ble_eq_true rfl) | exact rv_isB | exact rv_inL rfl rfl | exact rv_inT rfl rfl | exact rv_ic (by decide))
local macro_rules | `(tactic| decreasing_trivial) => `(tactic| first
  | exact rc_len rfl | exact rc_int | exact rc_intB | exact rc_abs | exact rc_tupleL | exact rc_tupleT | exact rc_list rfl | exact rc_max2 | exact rc_min2)
local macro_rules | `(tactic| trivial) => `(tactic| first
  | exact ep_int | exact ep_str | exact ep_bl | exact ep_non
  | exact ep_var rfl
  | (apply ep_op; trivial; trivial; get_elem_tactic_trivial)
  | (apply ep_cb; trivial; decreasing_trivial)
  | (apply ep_andF; trivial; rfl)
  | (apply ep_andV; trivial; intro _; trivial)
  | (apply ep_orT; trivial; rfl)
  | (apply ep_orV; trivial; intro _; trivial)
  | (apply ep_notV; trivial)
  | (apply ep_isN; trivial) | (apply ep_notN; trivial)
  | (apply ep_un; trivial; exact ru_i)
  | (apply ep_tup; trivial; exact Nat.le_of_ble_eq_true rfl) | (apply ep_lst; trivial; exact Nat.le_of_ble_eq_true rfl)
  | (apply ep_chain; trivial; trivial; get_elem_tactic_trivial; intro _; trivial; intro _; get_elem_tactic_trivial)
  | exact eps_nil | (apply eps_cons; trivial; trivial) | (apply eps_star; trivial; rfl; trivial)
  | (apply ef_ep; trivial)
  | (apply eb_B; trivial) | (apply eb_test; trivial)
  | (apply eb_andF; trivial; rfl)
  | (apply eb_and; trivial; intro _; trivial)
  | (apply eb_orT; trivial; rfl)
  | (apply eb_or; trivial; intro _; trivial)
  | (apply eb_not; trivial)
  | (apply ep_ifT; trivial; rfl; trivial) | (apply ep_ifF; trivial; rfl; trivial)
  | (apply ep_ifI; trivial; intro _; trivial; intro _; trivial) | (apply ep_ifL; trivial; intro _; trivial; intro _; trivial)
  | (apply ep_isi_int; trivial; first | rfl | assumption) | (apply ep_isi_bool; trivial; first | rfl | assumption) | (apply ep_isi_tuple; trivial; first | rfl | assumption) | (apply ep_isi_str; trivial; first | rfl | assumption)
  | (apply ep_isi_list; trivial; first | rfl | assumption) | (apply ep_isi_lt; trivial; first | rfl | assumption))
local macro_rules | `(tactic| trivial) => `(tactic| (apply ca_is_integer; trivial; first | rfl | assumption))
local macro_rules | `(tactic| trivial) => `(tactic| (apply ca_is_count; trivial))
local macro_rules | `(tactic| trivial) => `(tactic| (apply ca_is_between; trivial; first | rfl | assumption))
local macro_rules | `(tactic| trivial) => `(tactic| (apply ca_is_color; trivial; first | rfl | assumption))
local macro_rules | `(tactic| trivial) => `(tactic| (apply ca_other_color; trivial))
local macro_rules | `(tactic| trivial) => `(tactic| (apply ca_counts_of; trivial))
local macro_rules | `(tactic| trivial) => `(tactic| (apply ca_outside_in; trivial; first | assumption | exact .inl rfl | exact .inr rfl))
local macro_rules | `(tactic| trivial) => `(tactic| (apply ca_eye_in; trivial; first | assumption | exact .inl rfl | exact .inr rfl))
local macro_rules | `(tactic| trivial) => `(tactic| (apply ca_liberties_in; trivial; first | assumption | exact .inl rfl | exact .inr rfl))
abbrev S_law_race (K : PySem.W.Frag) : Sp := PF K (fun x : C5 × Bool => [nP x.1, .bl x.2]) (fun x => wfN x.1) (fun x r => r = rP K x.1)
theorem pl__law_race (n : C5) (r : Bool) (wn : wfN n) : SV K 0 (t__law_race K (SRace__init__ K)) (startE 2 [.v (nP n), .v (.bl r)]) [] (DR (· = rP K n)) := by
  unfold t__law_race
  cases r with
  | true =>
    apply sv_seq; apply sv_ifT; trivial; rfl
    apply sv_retP
    · apply ep_makeK (ix := [5, 4, 3, 2, 1].map (· - 1)) (x := n)
      · trivial
      · rfl
      · rfl
      · exact wn
    · exact fz_is rfl
  | false =>
    apply sv_seq; apply sv_ifF; trivial; rfl; apply sv_next
    apply sv_retP; apply ca_Race; trivial; exact wn; exact fz_is rfl
theorem ca__law_race {r : Bool} (hh : EPs K t Γ M [nP n, .bl r]) (wn : wfN n) : Z.EP K (tCall (S_law_race K) [] E t) Γ M (rP K n) := ep_call hh (n, r) rfl wn (fun _ h => h)
abbrev S_law_five (K : PySem.W.Frag) : Sp := PF K (fun n : C5 => [rP K n]) (fun _ => True) (fun n r => r = .lst (iP5 n))
theorem pl__law_five (kf : Kf K) (n : C5) : SV K 0 (t__law_five K) (startE 1 [.v (rP K n)]) [] (DR (· = .lst (iP5 n))) := by
  unfold t__law_five
  apply sv_retP
  · apply ep_lst
    · apply eps_cons; (apply ep_fld (ep_var rfl) kf.cl kf.na1 rfl); apply eps_cons; (apply ep_fld (ep_var rfl) kf.cl kf.na2 rfl); apply eps_cons; (apply ep_fld (ep_var rfl) kf.cl kf.na3 rfl); apply eps_cons; (apply ep_fld (ep_var rfl) kf.cl kf.na4 rfl); apply eps_cons; (apply ep_fld (ep_var rfl) kf.cl kf.na5 rfl); exact eps_nil
    · exact Nat.le_of_ble_eq_true rfl
  · exact fz_is rfl
theorem ca__law_five (hh : EPs K t Γ M [rP K n]) : Z.EP K (tCall (S_law_five K) [] E t) Γ M (.lst (iP5 n)) := ep_call hh n rfl True.intro (fun _ h => h)
end
end R35
set_option maxRecDepth 100000
set_option maxHeartbeats 4000000
namespace R35
open PySem PySem.Spec PyProof.Rows L2 Z
theorem val_ix {k x : Int} (hk : k = 1 ∨ k = 2) (hx : In3 x) : val x k = ixn k x := by
  unfold In3 at hx
  rcases hk with rfl | rfl <;> rcases hx with rfl | rfl | rfl <;> rfl
theorem val_none {n : C5} {k : Int} (hk : k = 1 ∨ k = 2) : min 1 (val (rsl n (3 - k)) k) = ixw n k none := by
  have e : 3 - (3 - k) = k := by omega
  show _ = ((ixn k (if 0 ≤ lead n (3 - k) then 3 - k else 0) : Nat) : Int)
  unfold rsl
  rw [e]
  by_cases h1 : 0 ≤ lead n (3 - k)
  · rw [if_pos h1, if_pos h1]
    rcases hk with rfl | rfl <;> rfl
  · rw [if_neg h1, if_neg h1]
    by_cases h2 : 1 ≤ lead n k
    · rw [if_pos h2]; rcases hk with rfl | rfl <;> rfl
    · rw [if_neg h2]; rcases hk with rfl | rfl <;> rfl
theorem val_some {n : C5} {k : Int} {w : Str} (hk : k = 1 ∨ k = 2) : (if lib (bhd n k w) (3 - k) = 0 then 2 else val (rsl (bhd n k w) (3 - k)) k) = ixw n k (some w) := by
  show _ = ((ixn k (if lib (bhd n k w) (3 - k) = 0 then k else rsl (bhd n k w) (3 - k)) : Nat) : Int)
  by_cases h : lib (bhd n k w) (3 - k) = 0
  · rw [if_pos h, if_pos h]
    rcases hk with rfl | rfl <;> rfl
  · rw [if_neg h, if_neg h]
    exact val_ix hk (rsl_in (by omega))
end R35
set_option maxRecDepth 100000
set_option maxHeartbeats 4000000
namespace R35
open PySem PySem.Spec PyProof.Rows L2 Z
abbrev lrow (n : C5) (k : Int) (o : Option Str) : P := .tup [wP o, .int (ixw n k o)]
abbrev lrD (n : C5) (k : Int) (l : List (Option Str)) : List D := l.map fun o => .v (lrow n k o)
def gMax (m : Int) : P → Bool
  | .tup (_ :: .int i :: _) => decide (i = m)
  | _ => false
theorem s_bhd {n : C5} {k : Int} {w : Str} (hs : 0 ≤ n.s) (hk : k = 1 ∨ k = 2) (h : w ∈ mv n k) : 0 ≤ (bhd n k w).s := by
  rcases mv_wd h with rfl | rfl | rfl
  · rw [bhd_o]; rcases hk with rfl | rfl <;> simp [les] <;> omega
  · have h1 := (mv_mem.2.1.mp h).1
    rw [bhd_s]; simp [les]; omega
  · rw [bhd_e]; rcases hk with rfl | rfl <;> simp [les] <;> omega
section
variable {K : PySem.W.Frag} {Γ : Z.Env} {M : Mem} {E : XK} {t : TA} {a b c d e i j h k : Int} {r : Bool} {p q : P} {ps qs : List P} {te : TE} {n : C5} {w : Str} {Φ : Mem → D → Prop}
local macro_rules | `(tactic| get_elem_tactic_trivial) => `(tactic| first
  | exact rv_plus_i | exact rv_ii | exact rv_ib | exact rv_eq_ii | exact rv_ne_ii | exact rv_eq_ss | exact rv_ne_ss | exact rv_eq_bb | exact rv_ne_bb | exact rv_ixT rfl | exact rv_ixL rfl
  | exact rv_plus_t (Nat.le_of_ble_eq_true rfl) | exact rv_plus_l (Nat.le_of_ble_eq_true rfl) | exact rv_plus_s (Nat.le_of_ble_eq_true rfl) | exact rv_isB | exact rv_inL rfl rfl | exact rv_inT rfl rfl | exact rv_ic (by decide))
local macro_rules | `(tactic| decreasing_trivial) => `(tactic| first
  | exact rc_len rfl | exact rc_int | exact rc_intB | exact rc_abs | exact rc_tupleL | exact rc_tupleT | exact rc_list rfl | exact rc_max2 | exact rc_min2)
local macro_rules | `(tactic| trivial) => `(tactic| first
  | exact ep_int | exact ep_str | exact ep_bl | exact ep_non
  | exact ep_var rfl
  | (apply ep_op; trivial; trivial; get_elem_tactic_trivial)
  | (apply ep_cb; trivial; decreasing_trivial)
  | (apply ep_andF; trivial; rfl)
  | (apply ep_andV; trivial; intro _; trivial)
  | (apply ep_orT; trivial; rfl)
  | (apply ep_orV; trivial; intro _; trivial)
  | (apply ep_notV; trivial)
  | (apply ep_isN; trivial) | (apply ep_notN; trivial)
  | (apply ep_un; trivial; exact ru_i)
  | (apply ep_tup; trivial; exact Nat.le_of_ble_eq_true rfl) | (apply ep_lst; trivial; exact Nat.le_of_ble_eq_true rfl)
  | (apply ep_chain; trivial; trivial; get_elem_tactic_trivial; intro _; trivial; intro _; get_elem_tactic_trivial)
  | exact eps_nil | (apply eps_cons; trivial; trivial) | (apply eps_star; trivial; rfl; trivial)
  | (apply ef_ep; trivial)
  | (apply eb_B; trivial) | (apply eb_test; trivial)
  | (apply eb_andF; trivial; rfl)
  | (apply eb_and; trivial; intro _; trivial)
  | (apply eb_orT; trivial; rfl)
  | (apply eb_or; trivial; intro _; trivial)
  | (apply eb_not; trivial)
  | (apply ep_ifT; trivial; rfl; trivial) | (apply ep_ifF; trivial; rfl; trivial)
  | (apply ep_ifI; trivial; intro _; trivial; intro _; trivial) | (apply ep_ifL; trivial; intro _; trivial; intro _; trivial)
  | (apply ep_isi_int; trivial; first | rfl | assumption) | (apply ep_isi_bool; trivial; first | rfl | assumption) | (apply ep_isi_tuple; trivial; first | rfl | assumption) | (apply ep_isi_str; trivial; first | rfl | assumption)
  | (apply ep_isi_list; trivial; first | rfl | assumption) | (apply ep_isi_lt; trivial; first | rfl | assumption))
local macro_rules | `(tactic| trivial) => `(tactic| (apply ca_is_integer; trivial; first | rfl | assumption))
local macro_rules | `(tactic| trivial) => `(tactic| (apply ca_is_count; trivial))
local macro_rules | `(tactic| trivial) => `(tactic| (apply ca_is_between; trivial; first | rfl | assumption))
local macro_rules | `(tactic| trivial) => `(tactic| (apply ca_is_color; trivial; first | rfl | assumption))
local macro_rules | `(tactic| trivial) => `(tactic| (apply ca_other_color; trivial))
local macro_rules | `(tactic| trivial) => `(tactic| (apply ca_counts_of; trivial))
local macro_rules | `(tactic| trivial) => `(tactic| (apply ca_outside_in; trivial; first | assumption | exact .inl rfl | exact .inr rfl))
local macro_rules | `(tactic| trivial) => `(tactic| (apply ca_eye_in; trivial; first | assumption | exact .inl rfl | exact .inr rfl))
local macro_rules | `(tactic| trivial) => `(tactic| (apply ca_liberties_in; trivial; first | assumption | exact .inl rfl | exact .inr rfl))
theorem ca_wordsD (hh : EPs K t Γ M [nP n, .int k]) (hk : k = 1 ∨ k = 2) : Z.EP K (tCall (S_law_words K) [] E t) Γ M (.lst ((mv n k).map .str)) := ev_callCP (ea_ep hh ⟨(n, k), rfl, hk, fun cs d ⟨e1, e2⟩ => ⟨_, by
  subst e1 e2
  exact .c (Nat.zero_le _) rfl (fzs_strs _), rfl, rfl⟩⟩)
abbrev S_law_best_words (K : PySem.W.Frag) : Sp := PC K (fun x : C5 × Int => [nP x.1, .int x.2]) (fun x => 0 ≤ x.1.s ∧ (x.2 = 1 ∨ x.2 = 2)) Rbest
theorem pl__law_best_words (n : C5) (k : Int) (hs : 0 ≤ n.s) (hk : k = 1 ∨ k = 2) : SV K 0 (t__law_best_words K (S_law_words K) (S_law_behind K) (S_law_value K) (S_law_result K)) (startE 7 [.v (nP n), .v (.int k)]) [] { nx := fun _ _ => False, rt := fun M d => Rbest (n, k) M d } := by
  unfold t__law_best_words
  have ho : 3 - k = 1 ∨ 3 - k = 2 := by omega
  apply sv_seq; apply sv_asg; apply ev_cell; apply en_lst; apply ea_nil; refine ⟨by decide, ?_⟩
  apply sv_seq; apply sv_for; apply ei_ip; apply eip_seq (p := .lst ((mv n k).map .str)); (apply ca_wordsD; trivial; exact hk); rfl
  refine ⟨fun i Γ M => M = [.l (lrD n k (((mv n k).take i).map some))] ∧ ∃ x3 x4, Γ = [some (.v (nP n)), some (.v (.int k)), some (.c 0), x3, x4, none, none], ⟨rfl, _, _, rfl⟩, ?_, ?_⟩
  · rintro i p Γ1 M1 hp ⟨rfl, x3, x4, rfl⟩
    have hw : ∃ w, (mv n k)[i]? = some w ∧ p = .str w := by
      rw [List.getElem?_map] at hp
      cases e : (mv n k)[i]? with
      | none => rw [e] at hp; cases hp
      | some w => rw [e] at hp; cases hp; exact ⟨w, rfl, rfl⟩
    obtain ⟨w, hwi, rfl⟩ := hw
    have wd : Wd w := mv_wd (List.mem_of_getElem? hwi)
    have et : lrD n k (((mv n k).take i).map some) ++ [D.v (lrow n k (some w))] = lrD n k (((mv n k).take (i + 1)).map some) := by
      rw [List.take_succ, hwi, List.map_append]
      unfold lrD
      rw [List.map_append]
      rfl
    have hlen : (lrD n k (((mv n k).take i).map some)).length < 9 := by
      have h4 : (mv n k).length ≤ 3 := by unfold mv mvO mvS mvE; split <;> split <;> split <;> simp
      unfold lrD
      rw [List.length_map, List.length_map, List.length_take]
      omega
    apply gv_name
    apply sv_seq; apply sv_set; (apply ca__law_behind; trivial; exact hk; exact wd)
    apply sv_drop; apply ev_bm; apply ev_var rfl; refine ⟨0, _, rfl, rfl, ?_⟩
    apply ea_ep; apply eps_cons (p := lrow n k (some w))
    · apply ep_tup
      · apply eps_cons; exact ep_var (p := .str w) rfl
        apply eps_cons (p := .int (ixw n k (some w)))
        · rw [← val_some hk]
          by_cases h : lib (bhd n k w) (3 - k) = 0
          · rw [if_pos h, show bhP n k w = .non from if_pos h]
            apply ep_ifT; (apply eb_B; exact ep_isN (p := .non) (ef_ep (ep_var rfl))); rfl; exact ep_int
          · rw [if_neg h, show bhP n k w = nP (bhd n k w) from if_neg h]
            apply ep_ifF; (apply eb_B; exact ep_isN (p := nP (bhd n k w)) (ef_ep (ep_var rfl))); rfl
            apply ca__law_value; apply eps_cons
            · apply ca__law_result; trivial
              · exact s_bhd hs hk (List.mem_of_getElem? hwi)
              · exact ho
            · apply eps_cons; trivial; exact eps_nil
        · exact eps_nil
      · exact Nat.le_of_ble_eq_true rfl
    · exact eps_nil
    refine ⟨_, _, _, rfl, mv_append (by omega), ?_⟩
    apply ni_refl
    refine ⟨?_, _, _, rfl⟩
    show [MC.l (_ ++ [_])] = _
    rw [et]
  · rintro Γ1 M1 ⟨rfl, x3, x4, rfl⟩
    have e0 : ((List.map P.str (mv n k)).length) = (mv n k).length := List.length_map ..
    rw [e0, List.take_length]
    have hlen : (lrD n k ((mv n k).map some)).length < 9 := by
      have h4 : (mv n k).length ≤ 3 := by unfold mv mvO mvS mvE; split <;> split <;> split <;> simp
      unfold lrD
      rw [List.length_map, List.length_map]
      omega
    have et : lrD n k ((mv n k).map some) ++ [D.v (lrow n k none)] = lrD n k (opts n k) := by
      unfold opts lrD
      rw [List.map_append]
      rfl
    apply sv_seq; apply sv_drop; apply ev_bm; apply ev_var rfl; refine ⟨0, _, rfl, rfl, ?_⟩
    apply ea_ep; apply eps_cons (p := lrow n k none)
    · apply ep_tup
      · apply eps_cons; exact ep_non
        apply eps_cons (p := .int (ixw n k none))
        · rw [← val_none hk]
          refine ep_cast (ep_cb (eps_cons ep_int (eps_cons (ca__law_value (eps_cons (ca__law_result (eps_cons (ep_var rfl) (eps_cons (ep_op ep_int (ep_var rfl) rv_ii) eps_nil)) hs ho) (eps_cons (ep_var rfl) eps_nil))) eps_nil)) rc_min2) ?_
          congr 1
          split <;> omega
        · exact eps_nil
      · exact Nat.le_of_ble_eq_true rfl
    · exact eps_nil
    refine ⟨_, _, _, rfl, mv_append (by omega), ?_⟩
    show SV K 0 _ _ [MC.l (lrD n k ((mv n k).map some) ++ [D.v (lrow n k none)])] _
    rw [et]
    have ec : lrD n k (opts n k) = ((opts n k).map (lrow n k)).map D.v := by unfold lrD; rw [List.map_map]; rfl
    rw [ec]
    refine sv_nrm (nrm_freeze (M0 := []) (ps := (opts n k).map (lrow n k)) (Γ' := [some (.v (nP n)), some (.v (.int k)), some (.v (.lst ((opts n k).map (lrow n k)))), none, none, none, none]) (Nat.le_refl _) rfl rfl fun i d e => ?_) ?_
    · match i, e with
      | 0, e => cases e; exact .inl ⟨rfl, rfl⟩
      | 1, e => cases e; exact .inl ⟨rfl, rfl⟩
      | 2, e => cases e; exact .inr ⟨rfl, rfl⟩
      | 3, e => cases e
      | 4, e => cases e
      | 5, e => cases e
      | 6, e => cases e
      | i + 7, e => cases e
    have wl := opts_len (n := n) (k := k)
    have at_l : ∀ {i : Nat} {p : P}, ((opts n k).map (lrow n k))[i]? = some p → ∃ o ∈ opts n k, p = lrow n k o := by
      intro i p h
      rw [List.getElem?_map] at h
      cases e : (opts n k)[i]? with
      | none => rw [e] at h; cases h
      | some w => rw [e] at h; cases h; exact ⟨w, List.mem_of_getElem? e, rfl⟩
    apply sv_seq; apply sv_set
    · apply ep_cb; apply eps_cons
      · apply ep_lcy (tgt_tup (tgts_cons (tgt_name (by decide)) (tgts_cons (tgt_name (by decide)) tgts_nil))) (items := (opts n k).map (lrow n k)) (v := vSnd)
        · exact eip_seq (ep_var rfl) rfl
        · rw [List.length_map]; exact Nat.le_trans wl.2 (by decide)
        · intro i p hp
          obtain ⟨o, ho, rfl⟩ := at_l hp
          apply gv_tup rfl; apply gvs_cons; apply gv_name; apply gvs_cons; apply gv_name; apply gvs_nil
          exact ep_var rfl
      · exact eps_nil
      · have e : ((opts n k).map (lrow n k)).map vSnd = ((opts n k).map (ixw n k)).map P.int := by
          rw [List.map_map, List.map_map]
          rfl
        rw [e]
        exact rc_maxL (by rw [List.length_map]; exact wl.1)
    apply sv_ret; apply ev_cell
    refine (en_lcm (tgt_tup (tgts_cons (tgt_name (by decide)) (tgts_cons (tgt_name (by decide)) tgts_nil))) (items := (opts n k).map (lrow n k)) (eip_seq (ep_var rfl) rfl) (by rw [List.length_map]; exact Nat.le_trans wl.2 (by decide))
      (gMax (maxL ((opts n k).map (ixw n k)))) vFst ?_).imp ?_
    · intro i p hp
      obtain ⟨o, ho, rfl⟩ := at_l hp
      apply gv_tup rfl; apply gvs_cons; apply gv_name; apply gvs_cons; apply gv_name; apply gvs_nil
      exact ⟨eb_test (ep_op (ep_var rfl) (ep_var rfl) rv_eq_ii), fun _ => ep_var rfl⟩
    · rintro M' ds ⟨rfl, rfl⟩
      refine ⟨?_, rfl⟩
      have e : (((opts n k).map (lrow n k)).filter (gMax (maxL ((opts n k).map (ixw n k))))).map vFst = (bst n k).map wP := by
        unfold bst
        rw [List.filter_map, List.map_map]
        rfl
      rw [e, List.map_map]
      rfl
end
end R35
set_option maxRecDepth 100000
set_option maxHeartbeats 4000000
namespace R35
open PySem PySem.Spec PyProof.Rows L2 Z
section
variable {K : PySem.W.Frag} {Γ : Z.Env} {M : Mem} {E : XK} {t : TA} {a b c d e i j h k : Int} {r : Bool} {p q : P} {ps qs : List P} {te : TE} {n : C5} {w : Str} {Φ : Mem → D → Prop}
local macro_rules | `(tactic| get_elem_tactic_trivial) => `(tactic| first
  | exact rv_plus_i | exact rv_ii | exact rv_ib | exact rv_eq_ii | exact rv_ne_ii | exact rv_eq_ss | exact rv_ne_ss | exact rv_eq_bb | exact rv_ne_bb | exact rv_ixT rfl | exact rv_ixL rfl
  | exact rv_plus_t (Nat.le_of_ble_eq_true rfl) | exact rv_plus_l (Nat.le_of_ble_eq_true rfl) | exact rv_plus_s (Nat.le_of_ble_eq_true rfl) | exact rv_isB | exact rv_inL rfl rfl | exact rv_inT rfl rfl | exact rv_ic (by decide))
local macro_rules | `(tactic| decreasing_trivial) => `(tactic| first
  | exact rc_len rfl | exact rc_int | exact rc_intB | exact rc_abs | exact rc_tupleL | exact rc_tupleT | exact rc_list rfl | exact rc_max2 | exact rc_min2)
local macro_rules | `(tactic| trivial) => `(tactic| first
  | exact ep_int | exact ep_str | exact ep_bl | exact ep_non
  | exact ep_var rfl
  | (apply ep_op; trivial; trivial; get_elem_tactic_trivial)
  | (apply ep_cb; trivial; decreasing_trivial)
  | (apply ep_andF; trivial; rfl)
  | (apply ep_andV; trivial; intro _; trivial)
  | (apply ep_orT; trivial; rfl)
  | (apply ep_orV; trivial; intro _; trivial)
  | (apply ep_notV; trivial)
  | (apply ep_isN; trivial) | (apply ep_notN; trivial)
  | (apply ep_un; trivial; exact ru_i)
  | (apply ep_tup; trivial; exact Nat.le_of_ble_eq_true rfl) | (apply ep_lst; trivial; exact Nat.le_of_ble_eq_true rfl)
  | (apply ep_chain; trivial; trivial; get_elem_tactic_trivial; intro _; trivial; intro _; get_elem_tactic_trivial)
  | exact eps_nil | (apply eps_cons; trivial; trivial) | (apply eps_star; trivial; rfl; trivial)
  | (apply ef_ep; trivial)
  | (apply eb_B; trivial) | (apply eb_test; trivial)
  | (apply eb_andF; trivial; rfl)
  | (apply eb_and; trivial; intro _; trivial)
  | (apply eb_orT; trivial; rfl)
  | (apply eb_or; trivial; intro _; trivial)
  | (apply eb_not; trivial)
  | (apply ep_ifT; trivial; rfl; trivial) | (apply ep_ifF; trivial; rfl; trivial)
  | (apply ep_ifI; trivial; intro _; trivial; intro _; trivial) | (apply ep_ifL; trivial; intro _; trivial; intro _; trivial)
  | (apply ep_isi_int; trivial; first | rfl | assumption) | (apply ep_isi_bool; trivial; first | rfl | assumption) | (apply ep_isi_tuple; trivial; first | rfl | assumption) | (apply ep_isi_str; trivial; first | rfl | assumption)
  | (apply ep_isi_list; trivial; first | rfl | assumption) | (apply ep_isi_lt; trivial; first | rfl | assumption))
local macro_rules | `(tactic| trivial) => `(tactic| (apply ca_is_integer; trivial; first | rfl | assumption))
local macro_rules | `(tactic| trivial) => `(tactic| (apply ca_is_count; trivial))
local macro_rules | `(tactic| trivial) => `(tactic| (apply ca_is_between; trivial; first | rfl | assumption))
local macro_rules | `(tactic| trivial) => `(tactic| (apply ca_is_color; trivial; first | rfl | assumption))
local macro_rules | `(tactic| trivial) => `(tactic| (apply ca_other_color; trivial))
local macro_rules | `(tactic| trivial) => `(tactic| (apply ca_counts_of; trivial))
local macro_rules | `(tactic| trivial) => `(tactic| (apply ca_outside_in; trivial; first | assumption | exact .inl rfl | exact .inr rfl))
local macro_rules | `(tactic| trivial) => `(tactic| (apply ca_eye_in; trivial; first | assumption | exact .inl rfl | exact .inr rfl))
local macro_rules | `(tactic| trivial) => `(tactic| (apply ca_liberties_in; trivial; first | assumption | exact .inl rfl | exact .inr rfl))
abbrev S_law_far (K : PySem.W.Frag) : Sp := BF K (fun _ : Unit => []) (fun _ => True) (fun _ => 5) (fun _ r => ∃ i, 0 ≤ i ∧ i < 90000000000000000000 ∧ r = .int i)
theorem pl__law_far (n : Nat) (c : MC) (hb : Bx n c) (hn : n + 5 ≤ 1000000000) : SV K 1 (t__law_far K (S_law_take K)) (startE 1 [.c 0]) [c]
    { nx := fun _ M => (∃ i, 0 ≤ i ∧ i < 90000000000000000000 ∧ P.non = .int i) ∧ ∃ c' M', M = c' :: M' ∧ Bx (n + 5) c', rt := fun M d => ∃ p, Fz 1 M d p ∧ (∃ i, 0 ≤ i ∧ i < 90000000000000000000 ∧ p = .int i) ∧ ∃ c' M', M = c' :: M' ∧ Bx (n + 5) c' } := by
  unfold t__law_far
  apply sv_ret; apply ev_op; apply ev_new; apply en_lst
  apply ea_cons
  refine ev_bx rfl (eps_cons ep_int eps_nil) rfl hb (4 : Int) rfl ⟨by decide, by decide⟩ (by show n + 1 ≤ 1000000000; omega) ?_
  rintro p1 c1 ⟨i1, h10, h11, rfl⟩ hb1
  apply ea_cons; apply ev_op; apply ev_op; apply ev_ep; (apply ep_op; trivial; trivial; exact rv_ic ⟨by decide, by decide, by decide⟩); refine ⟨_, rfl, ?_⟩
  refine ev_bx rfl (eps_cons ep_int eps_nil) rfl hb1 (9 : Int) rfl ⟨by decide, by decide⟩ (by show n + 1 + 1 ≤ 1000000000; omega) ?_
  rintro p2 c2 ⟨i2, h20, h21, rfl⟩ hb2
  refine ⟨_, rfl, _, rv_ic (.inl ⟨by decide, by decide⟩), ?_⟩
  refine ⟨_, rfl, ?_⟩
  refine ev_bx rfl (eps_cons (ep_op ep_int ep_int (rv_ic ⟨by decide, by decide, by decide⟩)) eps_nil) rfl hb2 ((10 : Int) ^ (6 : Int).toNat) rfl ⟨by decide, by decide⟩ (by show n + 1 + 1 + 1 ≤ 1000000000; omega) ?_
  rintro p3 c3 ⟨i3, h30, h31, rfl⟩ hb3
  refine ⟨_, rfl, _, rv_plus_i, ?_⟩
  apply ea_cons; apply ev_op; apply ev_ep; (apply ep_op; trivial; trivial; exact rv_ic ⟨by decide, by decide, by decide⟩); refine ⟨_, rfl, ?_⟩
  refine ev_bx rfl (eps_cons ep_int eps_nil) rfl hb3 (1000 : Int) rfl ⟨by decide, by decide⟩ (by show n + 1 + 1 + 1 + 1 ≤ 1000000000; omega) ?_
  rintro p4 c4 ⟨i4, h40, h41, rfl⟩ hb4
  refine ⟨_, rfl, _, rv_plus_i, ?_⟩
  apply ea_nil
  refine ⟨Nat.le_of_ble_eq_true rfl, [.int i1, .int (10 ^ (19 : Int).toNat * i2 + i3), .int (10 ^ (9 : Int).toNat + i4)], rfl, ?_⟩
  refine ⟨_, rfl, ?_⟩
  refine ev_bx rfl (eps_cons ep_int eps_nil) rfl hb4 (3 : Int) rfl ⟨by decide, by decide⟩ (by show n + 1 + 1 + 1 + 1 + 1 ≤ 1000000000; omega) ?_
  rintro p5 c5 ⟨i5, h50, h51, rfl⟩ hb5
  have e19 : (10 : Int) ^ (19 : Int).toNat = 10000000000000000000 := by decide
  have e9 : (10 : Int) ^ (9 : Int).toNat = 1000000000 := by decide
  have e6 : (10 : Int) ^ (6 : Int).toNat = 1000000 := by decide
  rw [e6] at h31
  have h5 : i5 = 0 ∨ i5 = 1 ∨ i5 = 2 := by omega
  rcases h5 with rfl | rfl | rfl
  · exact ⟨_, rfl, _, rv_ixL rfl, _, .v _, ⟨_, h10, by omega, rfl⟩, c5, [], rfl, hb5⟩
  · exact ⟨_, rfl, _, rv_ixL rfl, _, .v _, ⟨_, by rw [e19]; omega, by rw [e19]; omega, rfl⟩, c5, [], rfl, hb5⟩
  · exact ⟨_, rfl, _, rv_ixL rfl, _, .v _, ⟨_, by rw [e9]; omega, by rw [e9]; omega, rfl⟩, c5, [], rfl, hb5⟩
end
end R35
set_option maxRecDepth 100000
set_option maxHeartbeats 4000000
namespace R35
open PySem PySem.Spec PyProof.Rows L2 Z
/-- a comprehension whose items are drawn -/
theorem en_box {K : PySem.W.Frag} {wi : TI} {g : TG} {te : TE} {vs : List Nat} {Γ : Z.Env} {c : MC} {n cost : Nat} {items : List P} {Rk : P → Prop} (hT : Tgt vs g) (hi : EIp K wi Γ [c] items) (hl : items.length ≤ 99999) (hb : Bx n c)
    (h : ∀ (i : Nat) (p : P) (c' : MC) (n' : Nat), items[i]? = some p → Bx n' c' → n' + cost ≤ n + items.length * cost → GV K g p (wipeE Γ vs) [c'] fun Γ2 => EV K te Γ2 [c'] fun M d => ∃ q c'', d = .v q ∧ M = [c''] ∧ Bx (n' + cost) c'' ∧ Rk q) :
    EN K (tLc wi g tYes te vs) Γ [c] fun M ds => ∃ (qs : List P) (c' : MC), ds = qs.map .v ∧ M = [c'] ∧ Bx (n + items.length * cost) c' ∧ qs.length = items.length ∧ ∀ q ∈ qs, Rk q := by
  refine en_lc hT (fun X A σ H s R q => hi X A σ H s R fun A' M' its J H' t s' wk ⟨e1, e2⟩ => q A' M' its J H' t s' wk ?_)
  subst e1 e2
  refine ⟨fun i M1 acc => ∃ c', M1 = [c'] ∧ Bx (n + i * cost) c' ∧ acc.length = i ∧ ∀ q ∈ acc, Rk q, ⟨c, rfl, by rw [Nat.zero_mul]; exact hb, rfl, fun q h => by cases h⟩, ?_, ?_⟩
  · rintro i p M1 acc hp ⟨c', rfl, hb', hl', hR⟩
    have hi2 : i < its.length := (List.getElem?_eq_some_iff.mp hp).1
    refine ⟨by omega, (h i p c' (n + i * cost) hp hb' ?_).imp fun Γ2 hv => ?_⟩
    · have h3 : (i + 1) * cost ≤ its.length * cost := Nat.mul_le_mul_right _ hi2
      rw [Nat.add_mul, Nat.one_mul] at h3
      omega
    · refine et_eb eb_yes ?_
      rw [if_pos rfl]
      refine hv.imp fun M d ⟨q, c'', e1, e2, e3, e4⟩ => ⟨q, e1, c'', e2, ?_, ?_, ?_⟩
      · rw [Nat.add_mul, Nat.one_mul, ← Nat.add_assoc]; exact e3
      · rw [List.length_append, hl']; rfl
      · intro q' hq'
        rcases List.mem_append.mp hq' with h | h
        · exact hR q' h
        · rw [List.mem_singleton.mp h]; exact e4
  · rintro M1 acc ⟨c', rfl, hb', hl', hR⟩
    exact ⟨acc, c', rfl, rfl, hb', hl', hR⟩
theorem ev_tup {K : PySem.W.Frag} {Γ : Z.Env} {M : Mem} {Φ : Mem → D → Prop} {tar : TA} (h : EA K tar Γ M fun M1 ds => ∃ ps, ds = ps.map .v ∧ ps.length ≤ sizeLine ∧ Φ M1 (.v (.tup ps))) : EV K (tTup tar) Γ M Φ := fun X A σ H s Q k =>
  h X A σ H s _ fun A1 M1 v1 d1 H1 t1 s1 r1 ⟨ps, e1, hl, f⟩ => by
    subst e1
    have rr := r1.toRps
    refine ⟨by rw [Rps.length rr]; exact hl, fun p hp => ?_⟩
    exact k A1 _ _ (.v (.tup ps)) _ (t1.trans (.ofSame (same_new hp))) (s1.same (same_new hp)) (.v (Rp.newT s1.ce.xa hp rr)) f
theorem _root_.Z.Bx.mono {n m : Nat} {c : MC} (h : Bx n c) (hm : n ≤ m) : Bx m c := by
  obtain ⟨a, g, x, d, e, h1, h2, h3, h4, h5⟩ := h
  exact ⟨a, g, x, d, e, h1, h2, h3, h4, by omega⟩
def nn : P → Prop | .int i => 0 ≤ i | _ => False
theorem nn_int {p : P} (h : nn p) : ∃ i, 0 ≤ i ∧ p = .int i := by
  cases p <;> first | exact h.elim | exact ⟨_, h, rfl⟩
theorem minL_le {ns : List Int} {m : Int} (h : m ∈ ns) : minL ns ≤ m := by
  cases ns with
  | nil => cases h
  | cons x xs =>
    obtain ⟨h1, h2, _⟩ := foldl_min_le xs x
    rcases List.mem_cons.mp h with rfl | h
    · exact h1
    · exact h2 _ h
section
variable {K : PySem.W.Frag} {Γ : Z.Env} {M : Mem} {E : XK} {t : TA} {a b c d e i j h k : Int} {r : Bool} {p q : P} {ps qs : List P} {te : TE} {n : C5} {w : Str} {Φ : Mem → D → Prop}
local macro_rules | `(tactic| get_elem_tactic_trivial) => `(tactic| first
  | exact rv_plus_i | exact rv_ii | exact rv_ib | exact rv_eq_ii | exact rv_ne_ii | exact rv_eq_ss | exact rv_ne_ss | exact rv_eq_bb | exact rv_ne_bb | exact rv_ixT rfl | exact rv_ixL rfl
  | exact rv_plus_t (Nat.le_of_ble_eq_true rfl) | exact rv_plus_l (Nat.le_of_ble_eq_true rfl) | exact rv_plus_s (Nat.le_of_ble_eq_true rfl) | exact rv_isB | exact rv_inL rfl rfl | exact rv_inT rfl rfl | exact rv_ic (by decide))
local macro_rules | `(tactic| decreasing_trivial) => `(tactic| first
  | exact rc_len rfl | exact rc_int | exact rc_intB | exact rc_abs | exact rc_tupleL | exact rc_tupleT | exact rc_list rfl | exact rc_max2 | exact rc_min2)
local macro_rules | `(tactic| trivial) => `(tactic| first
  | exact ep_int | exact ep_str | exact ep_bl | exact ep_non
  | exact ep_var rfl
  | (apply ep_op; trivial; trivial; get_elem_tactic_trivial)
  | (apply ep_cb; trivial; decreasing_trivial)
  | (apply ep_andF; trivial; rfl)
  | (apply ep_andV; trivial; intro _; trivial)
  | (apply ep_orT; trivial; rfl)
  | (apply ep_orV; trivial; intro _; trivial)
  | (apply ep_notV; trivial)
  | (apply ep_isN; trivial) | (apply ep_notN; trivial)
  | (apply ep_un; trivial; exact ru_i)
  | (apply ep_tup; trivial; exact Nat.le_of_ble_eq_true rfl) | (apply ep_lst; trivial; exact Nat.le_of_ble_eq_true rfl)
  | (apply ep_chain; trivial; trivial; get_elem_tactic_trivial; intro _; trivial; intro _; get_elem_tactic_trivial)
  | exact eps_nil | (apply eps_cons; trivial; trivial) | (apply eps_star; trivial; rfl; trivial)
  | (apply ef_ep; trivial)
  | (apply eb_B; trivial) | (apply eb_test; trivial)
  | (apply eb_andF; trivial; rfl)
  | (apply eb_and; trivial; intro _; trivial)
  | (apply eb_orT; trivial; rfl)
  | (apply eb_or; trivial; intro _; trivial)
  | (apply eb_not; trivial)
  | (apply ep_ifT; trivial; rfl; trivial) | (apply ep_ifF; trivial; rfl; trivial)
  | (apply ep_ifI; trivial; intro _; trivial; intro _; trivial) | (apply ep_ifL; trivial; intro _; trivial; intro _; trivial)
  | (apply ep_isi_int; trivial; first | rfl | assumption) | (apply ep_isi_bool; trivial; first | rfl | assumption) | (apply ep_isi_tuple; trivial; first | rfl | assumption) | (apply ep_isi_str; trivial; first | rfl | assumption)
  | (apply ep_isi_list; trivial; first | rfl | assumption) | (apply ep_isi_lt; trivial; first | rfl | assumption))
local macro_rules | `(tactic| trivial) => `(tactic| (apply ca_is_integer; trivial; first | rfl | assumption))
local macro_rules | `(tactic| trivial) => `(tactic| (apply ca_is_count; trivial))
local macro_rules | `(tactic| trivial) => `(tactic| (apply ca_is_between; trivial; first | rfl | assumption))
local macro_rules | `(tactic| trivial) => `(tactic| (apply ca_is_color; trivial; first | rfl | assumption))
local macro_rules | `(tactic| trivial) => `(tactic| (apply ca_other_color; trivial))
local macro_rules | `(tactic| trivial) => `(tactic| (apply ca_counts_of; trivial))
local macro_rules | `(tactic| trivial) => `(tactic| (apply ca_outside_in; trivial; first | assumption | exact .inl rfl | exact .inr rfl))
local macro_rules | `(tactic| trivial) => `(tactic| (apply ca_eye_in; trivial; first | assumption | exact .inl rfl | exact .inr rfl))
local macro_rules | `(tactic| trivial) => `(tactic| (apply ca_liberties_in; trivial; first | assumption | exact .inl rfl | exact .inr rfl))
theorem ev_draw {r : Bool} {te2 : TE} {n : Nat} {c : MC} (h0 : Γ[0]? = some (some (.c 0))) (h1 : Γ[1]? = some (some (.v (.bl r)))) (hb : Bx n c) (hn : n + 5 ≤ 1000000000) (hr : ∀ i c', 0 ≤ i → Bx (n + 5) c' → Φ [c'] (.v (.int i))) (h2 : r = false → EV K te2 Γ [c] Φ) :
    EV K (tIf (tB (tVar 1)) (tCall (S_law_far K) [] E0 (tCons (tVar 0) tNil)) te2) Γ [c] Φ := by
  cases r with
  | true =>
    refine ev_if (et_eb (eb_B (ep_var h1)) ?_)
    rw [if_pos rfl]
    refine ev_bx h0 eps_nil rfl hb () rfl True.intro hn ?_
    rintro _ c' ⟨i, h0, h1, rfl⟩ hb'
    exact hr i c' h0 hb'
  | false =>
    refine ev_if (et_eb (eb_B (ep_var h1)) ?_)
    rw [if_neg (by decide)]
    exact h2 rfl
abbrev S_law_near_race (K : PySem.W.Frag) : Sp := BF K (fun r : Bool => [.bl r]) (fun _ => True) (fun _ => 200) (fun _ r => ∃ n, wfN n ∧ r = nP n)
theorem pl__law_near_race (r : Bool) (N : Nat) (c : MC) (hb : Bx N c) (hn : N + 200 ≤ 1000000000) : SV K 1 (t__law_near_race K (S_law_far K) (S_law_take K) (S_law_lead K) (S_law_total K)) (startE 8 [.c 0, .v (.bl r)]) [c]
    { nx := fun _ M => (∃ n, wfN n ∧ P.non = nP n) ∧ ∃ c' M', M = c' :: M' ∧ Bx (N + 200) c', rt := fun M d => ∃ p, Fz 1 M d p ∧ (∃ n, wfN n ∧ p = nP n) ∧ ∃ c' M', M = c' :: M' ∧ Bx (N + 200) c' } := by
  unfold t__law_near_race
  apply sv_seq; apply sv_for; apply ei_range1; apply ea_ep; (apply eps_cons; trivial; exact eps_nil)
  refine ⟨6, rfl, by decide, by decide, ?_⟩
  refine ⟨fun i Γ M => ∃ c' x2 x3 x4 x5 x6 x7, M = [c'] ∧ Bx (N + 30 * i) c' ∧ Γ = [some (.c 0), some (.v (.bl r)), x2, x3, x4, x5, x6, x7], ⟨c, _, _, _, _, _, _, rfl, hb, rfl⟩, ?_, ?_⟩
  · rintro i p Γ1 M1 hp ⟨c1, x2, x3, x4, x5, x6, x7, rfl, hb1, rfl⟩
    obtain ⟨hi, rfl⟩ := rangeP_at hp
    have hi : i < 6 := hi
    apply gv_name
    -- the race
    apply sv_seq; apply sv_asg; apply ev_op; apply ev_cb; apply ea_cons; apply ev_new
    refine (en_box (cost := 5) (Rk := nn) (tgt_name (by decide)) (items := rangeP 0 3) (eip_range1 (eps_cons ep_int eps_nil) (by decide) (by decide)) (by decide) hb1 ?_).imp ?_
    · intro l p c' n' _ hb' hn'
      have hn' : n' + 5 ≤ N + 30 * i + 3 * 5 := hn'
      apply gv_name
      refine ev_draw rfl rfl hb' (by omega) (fun i c'' h1 h2 => ⟨_, c'', rfl, rfl, h2, h1⟩) fun _ => ?_
      refine ev_bx rfl (eps_cons ep_int eps_nil) rfl hb' (4 : Int) rfl ⟨by decide, by decide⟩ (by show n' + 1 ≤ 1000000000; omega) ?_
      rintro _ c'' ⟨i, h1, _, rfl⟩ hb''
      exact ⟨_, c'', rfl, rfl, Bx.mono hb'' (by show n' + 1 ≤ n' + 5; omega), h1⟩
    rintro M' ds ⟨qs, c2, rfl, rfl, hb2, hl, hR⟩
    have hb2 : Bx (N + 30 * i + 15) c2 := hb2
    have hq : ∃ u v w : Int, 0 ≤ u ∧ 0 ≤ v ∧ 0 ≤ w ∧ qs = [.int u, .int v, .int w] := by
      match qs, hl with
      | [p1, p2, p3], _ =>
        obtain ⟨u, hu, rfl⟩ := nn_int (hR p1 (by simp))
        obtain ⟨v, hv, rfl⟩ := nn_int (hR p2 (by simp))
        obtain ⟨w, hw, rfl⟩ := nn_int (hR p3 (by simp))
        exact ⟨u, v, w, hu, hv, hw, rfl⟩
    obtain ⟨u, v, w, hu, hv, hw, rfl⟩ := hq
    refine ⟨_, rfl, ?_⟩
    apply ea_nil
    refine ⟨[.lst [.int u, .int v, .int w]], rfl, _, rc_tupleL, _, rfl, ?_⟩
    apply ev_cb; apply ea_cons; apply ev_new
    refine (en_box (cost := 6) (Rk := nn) (tgt_name (by decide)) (items := rangeP 0 2) (eip_range1 (eps_cons ep_int eps_nil) (by decide) (by decide)) (by decide) hb2 ?_).imp ?_
    · intro l p c' n' _ hb' hn'
      have hn' : n' + 6 ≤ N + 30 * i + 15 + 2 * 6 := hn'
      apply gv_name
      have fin : ∀ (x : Int) (c'' : MC), 0 ≤ x → Bx (n' + 5) c'' → EV K (tCall (S_law_take K) [] E0 (tCons (tVar 0) (tCons (tC (.int 5)) tNil))) ([some (.c 0), some (.v (.bl r)), some (.v (.int (0 + (i : Nat)))), x3, x4, x5, x6, some (.v p)]) [c''] fun M2 d2 => ∃ q, d2 = D.v q ∧ ∃ z, RV K (rIx K) (.lst [.int 0, .int 0, .int 1, .int 2, .int x]) q z ∧ (fun M d => ∃ q c'', d = D.v q ∧ M = [c''] ∧ Bx (n' + 6) c'' ∧ nn q) M2 (D.v z) := by
        intro x c'' hx hb''
        refine ev_bx rfl (eps_cons ep_int eps_nil) rfl hb'' (5 : Int) rfl ⟨by decide, by decide⟩ (by show n' + 5 + 1 ≤ 1000000000; omega) ?_
        rintro _ c3 ⟨j, h1, h2, rfl⟩ hb3
        refine ⟨_, rfl, ?_⟩
        have hj : j = 0 ∨ j = 1 ∨ j = 2 ∨ j = 3 ∨ j = 4 := by omega
        rcases hj with rfl | rfl | rfl | rfl | rfl
        · exact ⟨_, rv_ixL rfl, _, c3, rfl, rfl, hb3, by show (0 : Int) ≤ 0; omega⟩
        · exact ⟨_, rv_ixL rfl, _, c3, rfl, rfl, hb3, by show (0 : Int) ≤ 0; omega⟩
        · exact ⟨_, rv_ixL rfl, _, c3, rfl, rfl, hb3, by show (0 : Int) ≤ 1; omega⟩
        · exact ⟨_, rv_ixL rfl, _, c3, rfl, rfl, hb3, by show (0 : Int) ≤ 2; omega⟩
        · exact ⟨_, rv_ixL rfl, _, c3, rfl, rfl, hb3, hx⟩
      apply ev_op; apply ev_new; apply en_lst
      apply ea_cons; apply ev_ep; trivial; apply ea_cons; apply ev_ep; trivial; apply ea_cons; apply ev_ep; trivial; apply ea_cons; apply ev_ep; trivial; apply ea_cons
      refine ev_draw rfl rfl hb' (by omega) (fun x c'' h1 h2 => ?_) fun _ => ?_
      · apply ea_nil
        exact ⟨Nat.le_of_ble_eq_true rfl, [.int 0, .int 0, .int 1, .int 2, .int x], rfl, _, rfl, fin x c'' h1 h2⟩
      · apply ev_ep; trivial
        apply ea_nil
        exact ⟨Nat.le_of_ble_eq_true rfl, [.int 0, .int 0, .int 1, .int 2, .int 3], rfl, _, rfl, fin 3 c' (by decide) (Bx.mono hb' (by omega))⟩
    rintro M' ds ⟨qs, c3, rfl, rfl, hb3, hl, hR⟩
    have hb3 : Bx (N + 30 * i + 27) c3 := hb3
    have hq : ∃ x y : Int, 0 ≤ x ∧ 0 ≤ y ∧ qs = [.int x, .int y] := by
      match qs, hl with
      | [p1, p2], _ =>
        obtain ⟨u, hu, rfl⟩ := nn_int (hR p1 (by simp))
        obtain ⟨v, hv, rfl⟩ := nn_int (hR p2 (by simp))
        exact ⟨u, v, hu, hv, rfl⟩
    obtain ⟨x, y, hx, hy, rfl⟩ := hq
    refine ⟨_, rfl, ?_⟩
    apply ea_nil
    refine ⟨[.lst [.int x, .int y]], rfl, _, rc_tupleL, _, rfl, _, rv_plus_t (Nat.le_of_ble_eq_true rfl), ?_⟩
    show SV K _ _ (List.set _ _ (some (.v (nP ⟨u, v, w, x, y⟩)))) _ _
    -- the color
    apply sv_seq; apply sv_asg; apply ev_op; apply ev_ep; trivial; refine ⟨_, rfl, ?_⟩
    refine ev_bx rfl (eps_cons ep_int eps_nil) rfl hb3 (2 : Int) rfl ⟨by decide, by decide⟩ (by show N + 30 * i + 27 + 1 ≤ 1000000000; omega) ?_
    rintro _ c4 ⟨k0, k1, k2, rfl⟩ hb4
    have hb4 : Bx (N + 30 * i + 28) c4 := hb4
    refine ⟨_, rfl, _, rv_plus_i, ?_⟩
    have hk : 1 + k0 = 1 ∨ 1 + k0 = 2 := by omega
    generalize 1 + k0 = k at hk
    -- how much more
    apply sv_seq; apply sv_asg; apply ev_op; apply ev_ep; (apply ca__law_lead (n := ⟨u, v, w, x, y⟩); trivial; exact hw; exact hk); refine ⟨_, rfl, ?_⟩
    apply ev_op; refine ev_ep (p := .lst [.int (-2), .int (-1), .int 0, .int 0, .int 1, .int 2]) (by trivial) ⟨_, rfl, ?_⟩
    refine ev_bx rfl (eps_cons ep_int eps_nil) rfl hb4 (6 : Int) rfl ⟨by decide, by decide⟩ (by show N + 30 * i + 28 + 1 ≤ 1000000000; omega) ?_
    rintro _ c5 ⟨j, j1, j2, rfl⟩ hb5
    have hb5 : Bx (N + 30 * i + 29) c5 := hb5
    refine ⟨_, rfl, ?_⟩
    have hz : ∃ z : Int, RV K (rIx K) (.lst [.int (-2), .int (-1), .int 0, .int 0, .int 1, .int 2]) (.int j) (.int z) := by
      have hj : j = 0 ∨ j = 1 ∨ j = 2 ∨ j = 3 ∨ j = 4 ∨ j = 5 := by omega
      rcases hj with rfl | rfl | rfl | rfl | rfl | rfl <;> exact ⟨_, rv_ixL rfl⟩
    obtain ⟨z, hz⟩ := hz
    refine ⟨_, hz, _, rfl, _, rv_ii, ?_⟩
    generalize lead ⟨u, v, w, x, y⟩ k - z = more
    -- the race made
    have made : ∃ m : C5, m.s = w ∧ m.x = x ∧ m.y = y ∧ ∀ Γ2 : Z.Env, Γ2[3]? = some (some (.v (nP ⟨u, v, w, x, y⟩))) → Γ2[4]? = some (some (.v (.int k))) → Γ2[5]? = some (some (.v (.int more))) → Z.EP K (tIf (tTest (tOp (rI0 fun i j => .bl (decide (j < i))) (tVar 5) (tC (.int 0)))) (tOp (rPlus K) (tOp (rPlus K) (tSl (rSlSeq K) (tVar 3) tNoPart (tPart (tOp (rI0 fun i j => .int (i - j)) (tC (.int 2)) (tVar 4)))) (tTup (tCons (tOp (rPlus K) (tOp (rIx K) (tVar 3) (tOp (rI0 fun i j => .int (i - j)) (tC (.int 2)) (tVar 4))) (tVar 5)) tNil))) (tSl (rSlSeq K) (tVar 3) (tPart (tOp (rI0 fun i j => .int (i - j)) (tC (.int 3)) (tVar 4))) tNoPart)) (tOp (rPlus K) (tOp (rPlus K) (tSl (rSlSeq K) (tVar 3) tNoPart (tPart (tOp (rI0 fun i j => .int (i - j)) (tVar 4) (tC (.int 1))))) (tTup (tCons (tOp (rI0 fun i j => .int (i - j)) (tOp (rIx K) (tVar 3) (tOp (rI0 fun i j => .int (i - j)) (tVar 4) (tC (.int 1)))) (tVar 5)) tNil))) (tSl (rSlSeq K) (tVar 3) (tPart (tVar 4)) tNoPart))) Γ2 [c5] (nP m) := by
      have hd : ∀ bb : Bool, decide (0 < more) = bb → ∀ {ta tb : TE} {Γ2 : Z.Env} {p : P}, Γ2[5]? = some (some (.v (.int more))) → (if bb = true then Z.EP K ta Γ2 [c5] p else Z.EP K tb Γ2 [c5] p) → Z.EP K (tIf (tTest (tOp (rI0 fun i j => .bl (decide (j < i))) (tVar 5) (tC (.int 0)))) ta tb) Γ2 [c5] p := by
        intro bb e ta tb Γ2 p g h
        have et : EB K (tTest (tOp (rI0 fun i j => .bl (decide (j < i))) (tVar 5) (tC (.int 0)))) Γ2 [c5] bb := eb_is (eb_test (ep_op (ep_var g) ep_int rv_ib)) e
        cases bb with
        | true => exact ep_ifT et rfl h
        | false => exact ep_ifF et rfl h
      cases e : decide (0 < more) with
      | true =>
        rcases hk with rfl | rfl
        · refine ⟨⟨u, v + more, w, x, y⟩, rfl, rfl, rfl, fun Γ2 g3 g4 g5 => hd true e g5 ?_⟩
          exact ep_op (ep_op (ep_sl (ep_var g3) eo_none (eo_some (ep_op ep_int (ep_var g4) rv_ii)) slv_t) (ep_tup (eps_cons (ep_op (ep_op (ep_var g3) (ep_op ep_int (ep_var g4) rv_ii) (rv_ixT rfl)) (ep_var g5) rv_plus_i) eps_nil) (Nat.le_of_ble_eq_true rfl)) (rv_plus_t (Nat.le_of_ble_eq_true rfl))) (ep_sl (ep_var g3) (eo_some (ep_op ep_int (ep_var g4) rv_ii)) eo_none slv_t) (rv_plus_t (Nat.le_of_ble_eq_true rfl))
        · refine ⟨⟨u + more, v, w, x, y⟩, rfl, rfl, rfl, fun Γ2 g3 g4 g5 => hd true e g5 ?_⟩
          exact ep_op (ep_op (ep_sl (ep_var g3) eo_none (eo_some (ep_op ep_int (ep_var g4) rv_ii)) slv_t) (ep_tup (eps_cons (ep_op (ep_op (ep_var g3) (ep_op ep_int (ep_var g4) rv_ii) (rv_ixT rfl)) (ep_var g5) rv_plus_i) eps_nil) (Nat.le_of_ble_eq_true rfl)) (rv_plus_t (Nat.le_of_ble_eq_true rfl))) (ep_sl (ep_var g3) (eo_some (ep_op ep_int (ep_var g4) rv_ii)) eo_none slv_t) (rv_plus_t (Nat.le_of_ble_eq_true rfl))
      | false =>
        rcases hk with rfl | rfl
        · refine ⟨⟨u - more, v, w, x, y⟩, rfl, rfl, rfl, fun Γ2 g3 g4 g5 => hd false e g5 ?_⟩
          exact ep_op (ep_op (ep_sl (ep_var g3) eo_none (eo_some (ep_op (ep_var g4) ep_int rv_ii)) slv_t) (ep_tup (eps_cons (ep_op (ep_op (ep_var g3) (ep_op (ep_var g4) ep_int rv_ii) (rv_ixT rfl)) (ep_var g5) rv_ii) eps_nil) (Nat.le_of_ble_eq_true rfl)) (rv_plus_t (Nat.le_of_ble_eq_true rfl))) (ep_sl (ep_var g3) (eo_some (ep_var g4)) eo_none slv_t) (rv_plus_t (Nat.le_of_ble_eq_true rfl))
        · refine ⟨⟨u, v - more, w, x, y⟩, rfl, rfl, rfl, fun Γ2 g3 g4 g5 => hd false e g5 ?_⟩
          exact ep_op (ep_op (ep_sl (ep_var g3) eo_none (eo_some (ep_op (ep_var g4) ep_int rv_ii)) slv_t) (ep_tup (eps_cons (ep_op (ep_op (ep_var g3) (ep_op (ep_var g4) ep_int rv_ii) (rv_ixT rfl)) (ep_var g5) rv_ii) eps_nil) (Nat.le_of_ble_eq_true rfl)) (rv_plus_t (Nat.le_of_ble_eq_true rfl))) (ep_sl (ep_var g3) (eo_some (ep_var g4)) eo_none slv_t) (rv_plus_t (Nat.le_of_ble_eq_true rfl))
    obtain ⟨m, ms, mx, my, hm⟩ := made
    apply sv_seq; apply sv_set; exact hm _ rfl rfl rfl
    apply sv_if; apply et_and
    refine et_eb (eb_test (ep_op (ep_cb (eps_cons (ep_var rfl) eps_nil) (rc_minT (ns := [m.a, m.b, m.s, m.x, m.y]) (Nat.succ_pos _))) ep_int rv_ib)) ?_
    by_cases h1 : 0 ≤ minL [m.a, m.b, m.s, m.x, m.y]
    · rw [if_pos (decide_eq_true h1)]
      apply et_and; apply et_test; apply ev_op
      refine ev_maxT (ns := [m.a, m.b, m.s, m.x, m.y]) (eps_cons (ep_var rfl) eps_nil) (Nat.succ_pos _) fun mm => ⟨_, rfl, ?_⟩
      apply ev_ep; exact ep_op ep_int (ep_op ep_int ep_int (rv_ic ⟨by decide, by decide, by decide⟩)) (rv_ic (.inl ⟨by decide, by decide⟩))
      refine ⟨_, rfl, _, rv_ib, _, rfl, ?_⟩
      split
      · apply et_and; apply et_eb (eb_test (ep_op (ca__law_total (n := m) (eps_cons (ep_var rfl) (eps_cons ep_int eps_nil)) (.inl rfl)) ep_int rv_ib))
        by_cases h2 : 0 < lib m 1
        · rw [if_pos (decide_eq_true h2)]
          apply et_eb (eb_test (ep_op (ca__law_total (n := m) (eps_cons (ep_var rfl) (eps_cons ep_int eps_nil)) (.inr rfl)) ep_int rv_ib))
          by_cases h3 : 0 < lib m 2
          · rw [if_pos (decide_eq_true h3)]
            apply sv_retP; trivial
            have q1 := minL_le (ns := [m.a, m.b, m.s, m.x, m.y]) (m := m.a) (by simp)
            have q2 := minL_le (ns := [m.a, m.b, m.s, m.x, m.y]) (m := m.b) (by simp)
            have q3 := minL_le (ns := [m.a, m.b, m.s, m.x, m.y]) (m := m.s) (by simp)
            have q4 := minL_le (ns := [m.a, m.b, m.s, m.x, m.y]) (m := m.x) (by simp)
            have q5 := minL_le (ns := [m.a, m.b, m.s, m.x, m.y]) (m := m.y) (by simp)
            simp [lib, oc, ey] at h2 h3
            exact ⟨_, .v _, ⟨m, ⟨by omega, by omega, by omega, by omega, by omega, h2, h3⟩, rfl⟩, c5, [], rfl, Bx.mono hb5 (by omega)⟩
          · rw [if_neg (by simpa using h3)]; (apply sv_next; exact ni_refl ⟨c5, _, _, _, _, _, _, rfl, Bx.mono hb5 (by omega), rfl⟩)
        · rw [if_neg (by simpa using h2), if_neg (by decide)]; (apply sv_next; exact ni_refl ⟨c5, _, _, _, _, _, _, rfl, Bx.mono hb5 (by omega), rfl⟩)
      · rw [if_neg (by decide)]; (apply sv_next; exact ni_refl ⟨c5, _, _, _, _, _, _, rfl, Bx.mono hb5 (by omega), rfl⟩)
    · rw [if_neg (by simpa using h1), if_neg (by decide)]; (apply sv_next; exact ni_refl ⟨c5, _, _, _, _, _, _, rfl, Bx.mono hb5 (by omega), rfl⟩)
  · rintro Γ1 M1 ⟨c1, x2, x3, x4, x5, x6, x7, rfl, hb1, rfl⟩
    have hb1 : Bx (N + 180) c1 := hb1
    apply sv_ret; apply ev_tup
    apply ea_cons; apply ev_ep; trivial; apply ea_cons; apply ev_ep; trivial
    apply ea_cons; refine ev_bx rfl (eps_cons ep_int eps_nil) rfl hb1 (3 : Int) rfl ⟨by decide, by decide⟩ (by show N + 180 + 1 ≤ 1000000000; omega) ?_
    rintro _ c2 ⟨u, u1, u2, rfl⟩ hb2
    have hb2 : Bx (N + 181) c2 := hb2
    apply ea_cons; refine ev_bx rfl (eps_cons ep_int eps_nil) rfl hb2 (3 : Int) rfl ⟨by decide, by decide⟩ (by show N + 181 + 1 ≤ 1000000000; omega) ?_
    rintro _ c3 ⟨v, v1, v2, rfl⟩ hb3
    have hb3 : Bx (N + 182) c3 := hb3
    apply ea_cons; apply ev_ep; trivial; apply ea_nil
    exact ⟨[.int 1, .int 1, .int u, .int v, .int 0], rfl, Nat.le_of_ble_eq_true rfl, _, .v _, ⟨⟨1, 1, u, v, 0⟩, ⟨Int.one_nonneg, Int.one_nonneg, u1, v1, Int.le_refl 0, by show 0 < 1 + u + v; omega, by show 0 < 1 + u + 0; omega⟩, rfl⟩, c3, [], rfl, Bx.mono hb3 (by omega)⟩
end
end R35
set_option maxRecDepth 100000
set_option maxHeartbeats 4000000
namespace R35
open PySem PySem.Spec PyProof.Rows L2 Z
theorem sv_ifJ {K : PySem.W.Frag} {n : Nat} {tt : TT} {t u : TS} {Γ G : Z.Env} {M M1 : Mem} {E : DE} {b : Bool} (h : EB K tt Γ M b) (h1 : b = true → SV K n t Γ M { nx := fun Γ' M' => Γ' = G ∧ M' = M1, rt := fun _ _ => False })
    (h2 : b = false → SV K n u Γ M { nx := fun Γ' M' => Γ' = G ∧ M' = M1, rt := fun _ _ => False }) (f : E.nx G M1) : SV K n (tIfS tt t u) Γ M E :=
  sv_ifB h (fun e => (h1 e).imp (fun Γ' M' ⟨e1, e2⟩ => by rw [e1, e2]; exact f) (fun _ _ h => h.elim) (fun _ _ h => h.elim) (fun _ _ h => h.elim))
    fun e => (h2 e).imp (fun Γ' M' ⟨e1, e2⟩ => by rw [e1, e2]; exact f) (fun _ _ h => h.elim) (fun _ _ h => h.elim) (fun _ _ h => h.elim)
theorem ev_ifB {K : PySem.W.Frag} {tt : TT} {ta tb : TE} {Γ : Z.Env} {M : Mem} {Φ : Mem → D → Prop} {b : Bool} (h : EB K tt Γ M b) (h1 : b = true → EV K ta Γ M Φ) (h2 : b = false → EV K tb Γ M Φ) : EV K (tIf tt ta tb) Γ M Φ := ev_if (et_eb h (by
  cases b with
  | true => exact h1 rfl
  | false => exact h2 rfl))
theorem ep_ifB {K : PySem.W.Frag} {tt : TT} {ta tb : TE} {Γ : Z.Env} {M : Mem} {p : P} {b : Bool} (h : EB K tt Γ M b) (h1 : b = true → Z.EP K ta Γ M p) (h2 : b = false → Z.EP K tb Γ M p) : Z.EP K (tIf tt ta tb) Γ M p := ev_ifB h h1 h2
theorem okq_int {n : Nat} {i : Int} : okq n (.int i) = true := by cases n <;> rfl
theorem okq_bl {n : Nat} {i : Bool} : okq n (.bl i) = true := by cases n <;> rfl
theorem okq_wd {n : Nat} {w : Str} (h : Wd w) : okq n (.str w) = true := by rcases h with rfl | rfl | rfl <;> cases n <;> rfl
theorem okqs_of {n : Nat} : ∀ {ps : List P}, (∀ p ∈ ps, okq n p = true) → okqs n ps = true
  | [], _ => by simp [okqs]
  | p :: ps, h => by
    simp only [okqs, Bool.and_eq_true]
    exact ⟨h p (List.mem_cons_self ..), okqs_of fun q hq => h q (List.mem_cons_of_mem _ hq)⟩
theorem okq_lst {n : Nat} {ps : List P} (h1 : ps.length < 1000) (h2 : ∀ p ∈ ps, okq n p = true) : okq (n + 1) (.lst ps) = true := by
  simp only [okq, Bool.and_eq_true, decide_eq_true_eq]
  exact ⟨h1, okqs_of h2⟩
theorem mv_len {n : C5} {k : Int} : (mv n k).length ≤ 3 := by unfold mv mvO mvS mvE; split <;> split <;> split <;> simp
theorem okq_mv {m : Nat} {n : C5} {k : Int} : okq (m + 1) (.lst ((mv n k).map .str)) = true := by
  refine okq_lst (by rw [List.length_map]; have := mv_len (n := n) (k := k); omega) fun p hp => ?_
  obtain ⟨w, hw, rfl⟩ := List.mem_map.mp hp
  exact okq_wd (mv_wd hw)
theorem okq_bst {m : Nat} {n : C5} {k : Int} : okq (m + 1) (.lst ((bst n k).map wP)) = true := by
  refine okq_lst ?_ fun p hp => ?_
  · rw [List.length_map]
    have h1 := opts_len (n := n) (k := k)
    have h2 : (bst n k).length ≤ (opts n k).length := List.length_filter_le _ _
    omega
  · obtain ⟨o, ho, rfl⟩ := List.mem_map.mp hp
    have ho2 : o ∈ opts n k := (List.mem_filter.mp ho).1
    cases o with
    | none => cases m <;> rfl
    | some w => exact okq_wd (opts_wd ho2 w rfl)
theorem lib_bhd {n : C5} {k : Int} {w : Str} (hk : k = 1 ∨ k = 2) (hw : Wd w) : lib (bhd n k w) (3 - k) = lib n (3 - k) - 1 := by
  rcases hw with rfl | rfl | rfl
  · rw [bhd_o]; rcases hk with rfl | rfl <;> simp [les, lib, oc, ey] <;> omega
  · rw [bhd_s]; rcases hk with rfl | rfl <;> simp [les, lib, oc, ey] <;> omega
  · rw [bhd_e]; rcases hk with rfl | rfl <;> simp [les, lib, oc, ey] <;> omega
theorem lib_pos {n : C5} {k : Int} (w : wfN n) (hk : k = 1 ∨ k = 2) : 0 < lib n k := by
  obtain ⟨_, _, _, _, _, l1, l2⟩ := w
  rcases hk with rfl | rfl <;> simp [lib, oc, ey] <;> omega
theorem optD_sh (n : Nat) (l : List (Option Str)) : (optD l).map (shD n) = optD l := by
  unfold optD
  rw [List.map_map]
  rfl
theorem fzs_opts {n : Nat} {M : Mem} : ∀ l : List (Option Str), Fzs n M (l.map fun w => .v (wP w)) (l.map wP)
  | [] => .nil
  | w :: l => .cons (.v _) (fzs_opts l)
section
variable {K : PySem.W.Frag} {Γ : Z.Env} {M : Mem} {E : XK} {t : TA} {a b c d e i j h k : Int} {r : Bool} {p q : P} {ps qs : List P} {te : TE} {n : C5} {w : Str} {Φ : Mem → D → Prop}
local macro_rules | `(tactic| get_elem_tactic_trivial) => `(tactic| first
  | exact rv_plus_i | exact rv_ii | exact rv_ib | exact rv_eq_ii | exact rv_ne_ii | exact rv_eq_ss | exact rv_ne_ss | exact rv_eq_bb | exact rv_ne_bb | exact rv_ixT rfl | exact rv_ixL rfl
  | exact rv_plus_t (Nat.le_of_ble_eq_true rfl) | exact rv_plus_l (Nat.le_of_ble_eq_true rfl) | exact rv_plus_s (Nat.le_of_ble_eq_true rfl) | exact rv_isB | exact rv_inL rfl rfl | exact rv_inT rfl rfl | exact rv_ic (by decide))
local macro_rules | `(tactic| decreasing_trivial) => `(tactic| first
  | exact rc_len rfl | exact rc_int | exact rc_intB | exact rc_abs | exact rc_tupleL | exact rc_tupleT | exact rc_list rfl | exact rc_max2 | exact rc_min2)
local macro_rules | `(tactic| trivial) => `(tactic| first
  | exact ep_int | exact ep_str | exact ep_bl | exact ep_non
  | exact ep_var rfl
  | (apply ep_op; trivial; trivial; get_elem_tactic_trivial)
  | (apply ep_cb; trivial; decreasing_trivial)
  | (apply ep_andF; trivial; rfl)
  | (apply ep_andV; trivial; intro _; trivial)
  | (apply ep_orT; trivial; rfl)
  | (apply ep_orV; trivial; intro _; trivial)
  | (apply ep_notV; trivial)
  | (apply ep_isN; trivial) | (apply ep_notN; trivial)
  | (apply ep_un; trivial; exact ru_i)
  | (apply ep_tup; trivial; exact Nat.le_of_ble_eq_true rfl) | (apply ep_lst; trivial; exact Nat.le_of_ble_eq_true rfl)
  | (apply ep_chain; trivial; trivial; get_elem_tactic_trivial; intro _; trivial; intro _; get_elem_tactic_trivial)
  | exact eps_nil | (apply eps_cons; trivial; trivial) | (apply eps_star; trivial; rfl; trivial)
  | (apply ef_ep; trivial)
  | (apply eb_B; trivial) | (apply eb_test; trivial)
  | (apply eb_andF; trivial; rfl)
  | (apply eb_and; trivial; intro _; trivial)
  | (apply eb_orT; trivial; rfl)
  | (apply eb_or; trivial; intro _; trivial)
  | (apply eb_not; trivial)
  | (apply ep_ifT; trivial; rfl; trivial) | (apply ep_ifF; trivial; rfl; trivial)
  | (apply ep_ifI; trivial; intro _; trivial; intro _; trivial) | (apply ep_ifL; trivial; intro _; trivial; intro _; trivial)
  | (apply ep_isi_int; trivial; first | rfl | assumption) | (apply ep_isi_bool; trivial; first | rfl | assumption) | (apply ep_isi_tuple; trivial; first | rfl | assumption) | (apply ep_isi_str; trivial; first | rfl | assumption)
  | (apply ep_isi_list; trivial; first | rfl | assumption) | (apply ep_isi_lt; trivial; first | rfl | assumption))
local macro_rules | `(tactic| trivial) => `(tactic| (apply ca_is_integer; trivial; first | rfl | assumption))
local macro_rules | `(tactic| trivial) => `(tactic| (apply ca_is_count; trivial))
local macro_rules | `(tactic| trivial) => `(tactic| (apply ca_is_between; trivial; first | rfl | assumption))
local macro_rules | `(tactic| trivial) => `(tactic| (apply ca_is_color; trivial; first | rfl | assumption))
local macro_rules | `(tactic| trivial) => `(tactic| (apply ca_other_color; trivial))
local macro_rules | `(tactic| trivial) => `(tactic| (apply ca_counts_of; trivial))
local macro_rules | `(tactic| trivial) => `(tactic| (apply ca_outside_in; trivial; first | assumption | exact .inl rfl | exact .inr rfl))
local macro_rules | `(tactic| trivial) => `(tactic| (apply ca_eye_in; trivial; first | assumption | exact .inl rfl | exact .inr rfl))
local macro_rules | `(tactic| trivial) => `(tactic| (apply ca_liberties_in; trivial; first | assumption | exact .inl rfl | exact .inr rfl))
theorem ca_rlib (hh : EPs K t Γ M [rP K n, .int k]) (hk : k = 1 ∨ k = 2) : Z.EP K (tCall (Srace_liberties K) [] E t) Γ M (.int (lib n k)) := ep_call hh (n, k) rfl hk (fun _ h => h)
theorem cn_rlib (hh : EPs K t Γ M [.int k, rP K n]) (hk : k = 1 ∨ k = 2) : Z.EP K (tCallN 0 (List.length (α := Str) ["color", "race"]) (Srace_liberties K) (fun vs zs => perm [1, 0] (vs ++ zs)) E tNil t) Γ M (.int (lib n k)) := ep_callN eps_nil hh rfl rfl (n, k) rfl hk (fun _ h => h)
theorem ca_rneed (hh : EPs K t Γ M [rP K n, .int k]) (hk : k = 1 ∨ k = 2) : Z.EP K (tCall (Srace_need K) [] E t) Γ M (.int (need n k)) := ep_call hh (n, k) rfl hk (fun _ h => h)
theorem cn_rneed (hh : EPs K t Γ M [.int k, rP K n]) (hk : k = 1 ∨ k = 2) : Z.EP K (tCallN 0 (List.length (α := Str) ["color", "race"]) (Srace_need K) (fun vs zs => perm [1, 0] (vs ++ zs)) E tNil t) Γ M (.int (need n k)) := ep_callN eps_nil hh rfl rfl (n, k) rfl hk (fun _ h => h)
theorem ca_rlead (hh : EPs K t Γ M [rP K n, .int k]) (hk : k = 1 ∨ k = 2) : Z.EP K (tCall (Srace_lead K) [] E t) Γ M (.int (lead n k)) := ep_call hh (n, k) rfl hk (fun _ h => h)
theorem cn_rlead (hh : EPs K t Γ M [.int k, rP K n]) (hk : k = 1 ∨ k = 2) : Z.EP K (tCallN 0 (List.length (α := Str) ["color", "race"]) (Srace_lead K) (fun vs zs => perm [1, 0] (vs ++ zs)) E tNil t) Γ M (.int (lead n k)) := ep_callN eps_nil hh rfl rfl (n, k) rfl hk (fun _ h => h)
theorem ca_rrsl (hh : EPs K t Γ M [rP K n, .int k]) (hk : k = 1 ∨ k = 2) : Z.EP K (tCall (Srace_result K) [] E t) Γ M (.int (rsl n k)) := ep_call hh (n, k) rfl hk (fun _ h => h)
theorem cn_rrsl (hh : EPs K t Γ M [.int k, rP K n]) (hk : k = 1 ∨ k = 2) : Z.EP K (tCallN 0 (List.length (α := Str) ["first", "race"]) (Srace_result K) (fun vs zs => perm [1, 0] (vs ++ zs)) E tNil t) Γ M (.int (rsl n k)) := ep_callN eps_nil hh rfl rfl (n, k) rfl hk (fun _ h => h)
theorem ca_rmoves (hh : EPs K t Γ M [rP K n, .int k]) (hk : k = 1 ∨ k = 2) (f : Φ (M ++ [.l (strD (mv n k))]) (.c M.length)) : EV K (tCall (Srace_moves K) [] E t) Γ M Φ := ev_callC (ea_ep hh ⟨(n, k), rfl, hk, fun cs d ⟨e1, e2⟩ => by
  subst e1 e2
  show Φ (M ++ [MC.l ((strD (mv n k)).map (shD M.length))]) (.c M.length)
  rw [strD_sh]
  exact f⟩)
theorem cn_rmoves (hh : EPs K t Γ M [.int k, rP K n]) (hk : k = 1 ∨ k = 2) (f : Φ (M ++ [.l (strD (mv n k))]) (.c M.length)) : EV K (tCallN 0 (List.length (α := Str) ["color", "race"]) (Srace_moves K) (fun vs zs => perm [1, 0] (vs ++ zs)) E tNil t) Γ M Φ := ev_callNC (ea_nil (ea_ep hh ⟨[], _, (n, k), rfl, rfl, rfl, rfl, rfl, hk, fun cs d ⟨e1, e2⟩ => by
  subst e1 e2
  show Φ (M ++ [MC.l ((strD (mv n k)).map (shD M.length))]) (.c M.length)
  rw [strD_sh]
  exact f⟩))
theorem ca_best (hh : EPs K t Γ M [rP K n, .int k]) (hk : k = 1 ∨ k = 2) (f : Φ (M ++ [.l (optD (bst n k))]) (.c M.length)) : EV K (tCall (Sbest_race_moves K) [] E t) Γ M Φ := ev_callC (ea_ep hh ⟨(n, k), rfl, hk, fun cs d ⟨e1, e2⟩ => by
  subst e1 e2
  show Φ (M ++ [MC.l ((optD (bst n k)).map (shD M.length))]) (.c M.length)
  rw [optD_sh]
  exact f⟩)
theorem cn_best (hh : EPs K t Γ M [.int k, rP K n]) (hk : k = 1 ∨ k = 2) (f : Φ (M ++ [.l (optD (bst n k))]) (.c M.length)) : EV K (tCallN 0 (List.length (α := Str) ["color", "race"]) (Sbest_race_moves K) (fun vs zs => perm [1, 0] (vs ++ zs)) E tNil t) Γ M Φ := ev_callNC (ea_nil (ea_ep hh ⟨[], _, (n, k), rfl, rfl, rfl, rfl, rfl, hk, fun cs d ⟨e1, e2⟩ => by
  subst e1 e2
  show Φ (M ++ [MC.l ((optD (bst n k)).map (shD M.length))]) (.c M.length)
  rw [optD_sh]
  exact f⟩))
theorem ca_bestD (hh : EPs K t Γ M [rP K n, .int k]) (hk : k = 1 ∨ k = 2) : Z.EP K (tCall (Sbest_race_moves K) [] E t) Γ M (.lst ((bst n k).map wP)) := ev_callCP (ea_ep hh ⟨(n, k), rfl, hk, fun cs d ⟨e1, e2⟩ => ⟨_, by
  subst e1 e2
  exact .c (Nat.zero_le _) rfl (fzs_opts _), rfl, rfl⟩⟩)
theorem ca_lbestD (hh : EPs K t Γ M [nP n, .int k]) (hs : 0 ≤ n.s) (hk : k = 1 ∨ k = 2) : Z.EP K (tCall (S_law_best_words K) [] E t) Γ M (.lst ((bst n k).map wP)) := ev_callCP (ea_ep hh ⟨(n, k), rfl, ⟨hs, hk⟩, fun cs d ⟨e1, e2⟩ => ⟨_, by
  subst e1 e2
  exact .c (Nat.zero_le _) rfl (fzs_opts _), rfl, rfl⟩⟩)
def afP (K : PySem.W.Frag) (n : C5) (k : Int) (w : Str) : P := if 0 < lib (bhd n k w) (3 - k) then rP K (bhd n k w) else .non
theorem ca_after (hh : EPs K t Γ M [rP K n, .int k, .str w]) (wn : wfN n) (hk : k = 1 ∨ k = 2) (hw : w ∈ mv n k) : Z.EP K (tCall (Srace_after K) [] E t) Γ M (afP K n k w) := ep_call hh (n, k, w) rfl ⟨wn, hk, hw⟩ (fun _ h => h)
theorem cn_after (hh : EPs K t Γ M [.str w, .int k, rP K n]) (wn : wfN n) (hk : k = 1 ∨ k = 2) (hw : w ∈ mv n k) : Z.EP K (tCallN 0 (List.length (α := Str) ["move", "color", "race"]) (Srace_after K) (fun vs zs => perm [2, 1, 0] (vs ++ zs)) E tNil t) Γ M (afP K n k w) := ep_callN eps_nil hh rfl rfl (n, k, w) rfl ⟨wn, hk, hw⟩ (fun _ h => h)
theorem in12 {i : Nat} {p : P} (h : ([.int 1, .int 2] : List P)[i]? = some p) : ∃ k : Int, (k = 1 ∨ k = 2) ∧ p = .int k := by
  match i, h with
  | 0, h => cases h; exact ⟨1, .inl rfl, rfl⟩
  | 1, h => cases h; exact ⟨2, .inr rfl, rfl⟩
abbrev S_law_counts_right (K : PySem.W.Frag) : Sp := PF K (fun x : C5 × Bool => [nP x.1, rP K x.1, .bl x.2]) (fun x => wfN x.1) (fun _ r => r = .bl true)
theorem pl__law_counts_right (kf : Kf K) (n : C5) (r : Bool) (wn : wfN n) : SV K 0 (t__law_counts_right K (Srace_liberties K) (Srace_need K) (Srace_lead K) (Srace_result K) (S_law_is K 3) (S_law_total K) (S_law_need K) (S_law_lead K) (S_law_result K) (Srace_moves K) (S_law_words K) (Srace_after K) (S_law_behind K) (S_law_five K)) (startE 9 [.v (nP n), .v (rP K n), .v (.bl r)]) [] (DR (· = .bl true)) := by
  unfold t__law_counts_right
  have hs : 0 ≤ n.s := wn.s
  apply sv_seq; apply sv_for; apply ei_ip; apply eip_seq (p := .tup [.int 1, .int 2]); trivial; rfl
  refine ⟨fun i Γ M => M = [] ∧ ∃ x3 x4 x5 x6 x7 x8, Γ = [some (.v (nP n)), some (.v (rP K n)), some (.v (.bl r)), x3, x4, x5, x6, x7, x8], ⟨rfl, _, _, _, _, _, _, rfl⟩, ?_, ?_⟩
  · rintro i p Γ1 M1 hp ⟨rfl, x3, x4, x5, x6, x7, x8, rfl⟩
    obtain ⟨k, hk, rfl⟩ := in12 hp
    apply gv_name
    apply sv_seq; apply sv_set (p := .lst [.int (lib n k), .int (need n k), .int (lead n k), .int (rsl n k)])
    · apply ep_lst
      · apply eps_cons; (apply ca_rlib; trivial; exact hk); apply eps_cons; (apply cn_rneed; trivial; exact hk); apply eps_cons; (apply ca_rlead; trivial; exact hk); apply eps_cons; (apply cn_rrsl; trivial; exact hk); exact eps_nil
      · exact Nat.le_of_ble_eq_true rfl
    apply sv_seq; apply sv_ifJ (G := [some (.v (nP n)), some (.v (rP K n)), some (.v (.bl r)), some (.v (.int k)), some (.v (.lst [.int (lib n k), .int (need n k), .int (lead n k), .int (rsl n k)])), x5, x6, x7, x8]) (M1 := []); trivial
    · intro _
      apply sv_set (p := .lst [.int (lib n k), .int (need n k), .int (lead n k), .int (rsl n k)])
      · apply ep_lst
        · apply eps_cons; (apply cn_rlib; trivial; exact hk); apply eps_cons; (apply ca_rneed; trivial; exact hk); apply eps_cons; (apply cn_rlead; trivial; exact hk); apply eps_cons; (apply ca_rrsl; trivial; exact hk); exact eps_nil
        · exact Nat.le_of_ble_eq_true rfl
      exact ⟨rfl, rfl⟩
    · intro _; apply sv_next; exact ⟨rfl, rfl⟩
    apply sv_seq; apply sv_ifF
    · apply eb_not (b := true); apply eb_B
      refine ca_law_is (n := 3) (p := .lst [.int (lib n k), .int (need n k), .int (lead n k), .int (rsl n k)]) (q := .lst [.int (lib n k), .int (need n k), .int (lead n k), .int (rsl n k)]) (eps_cons (ep_var rfl) (eps_cons ?_ eps_nil)) rfl ?_
      · apply ep_lst
        · apply eps_cons; (apply ca__law_total; trivial; exact hk); apply eps_cons; (apply ca__law_need; trivial; exact hs; exact hk); apply eps_cons; (apply ca__law_lead; trivial; exact hs; exact hk); apply eps_cons; (apply ca__law_result; trivial; exact hs; exact hk); exact eps_nil
        · exact Nat.le_of_ble_eq_true rfl
      · simp [okq, okqs]
    · rfl
    apply sv_next
    apply sv_seq; apply sv_asg
    have fw : ∀ {Φ : Mem → D → Prop} {Γ : Z.Env}, Γ[1]? = some (some (.v (rP K n))) → Γ[2]? = some (some (.v (.bl r))) → Γ[3]? = some (some (.v (.int k))) → Φ [.l (strD (mv n k))] (.c 0) → EV K (tIf (tB (tVar 2)) (tCall (Srace_moves K) [] E0 (tCons (tVar 1) (tCons (tVar 3) tNil))) (tCallN 0 (List.length (α := Str) ["color", "race"]) (Srace_moves K) (fun vs zs => perm [1, 0] (vs ++ zs)) E0 tNil (tCons (tVar 3) (tCons (tVar 1) tNil)))) Γ [] Φ :=
      fun g1 g2 g3 f => ev_ifB (eb_B (ep_var g2)) (fun _ => ca_rmoves (eps_cons (ep_var g1) (eps_cons (ep_var g3) eps_nil)) hk f) fun _ => cn_rmoves (eps_cons (ep_var g3) (eps_cons (ep_var g1) eps_nil)) hk f
    refine fw rfl rfl rfl ?_
    apply sv_seq; apply sv_ifF
    · apply eb_not (b := true); apply eb_B
      refine ce_law_is (n := 3) (p := .lst ((mv n k).map .str)) (efs_cons (ef_var rfl (.c (Nat.zero_le _) rfl (fzs_strs _))) (efs_cons (ef_ep (ca_wordsD (eps_cons (ep_var rfl) (eps_cons (ep_var rfl) eps_nil)) hk)) efs_nil)) rfl okq_mv
    · rfl
    apply sv_next
    have hl : (strD (mv n k)).length < 100 := by
      have := mv_len (n := n) (k := k)
      rw [List.length_map]; omega
    apply sv_seq; apply sv_drop; apply ev_bm; apply ev_var rfl; refine ⟨0, _, rfl, rfl, ?_⟩
    apply ea_ep; apply eps_cons; trivial; exact eps_nil
    refine ⟨_, _, _, rfl, mv_append (by omega), ?_⟩
    generalize (strD (mv n k) ++ [D.v (P.str "more")]) = wl
    apply sv_for; apply ei_ip; apply eip_seq (p := .lst ((mv n k).map .str)); (apply ca_wordsD; trivial; exact hk); rfl
    refine ⟨fun i Γ M => M = [.l wl] ∧ ∃ x4 x5 x6 x7 x8, Γ = [some (.v (nP n)), some (.v (rP K n)), some (.v (.bl r)), some (.v (.int k)), x4, x5, x6, x7, x8], ⟨rfl, _, _, _, _, _, rfl⟩, ?_, ?_⟩
    · rintro i p Γ1 M1 hp ⟨rfl, x4, x5, x6, x7, x8, rfl⟩
      obtain ⟨w, hwm, rfl⟩ := List.mem_map.mp (List.mem_of_getElem? hp)
      have wd : Wd w := mv_wd hwm
      have hl0 : 0 ≤ lib (bhd n k w) (3 - k) := by
        rw [lib_bhd hk wd]
        have := lib_pos wn (k := 3 - k) (by omega)
        omega
      apply gv_name
      apply sv_seq; apply sv_par; apply ea_ep
      · apply eps_cons (p := afP K n k w)
        · apply ep_ifB; trivial
          · intro _; apply ca_after; trivial; exact wn; exact hk; exact hwm
          · intro _; apply cn_after; trivial; exact wn; exact hk; exact hwm
        · apply eps_cons; (apply ca__law_behind; trivial; exact hk; exact wd); exact eps_nil
      refine ⟨_, _, rfl, ?_⟩
      show SV K 1 _ [some (.v (nP n)), some (.v (rP K n)), some (.v (.bl r)), some (.v (.int k)), x4, x5, some (.v (.str w)), some (.v (afP K n k w)), some (.v (bhP n k w))] _ _
      by_cases h0 : lib (bhd n k w) (3 - k) = 0
      · have e1 : afP K n k w = .non := if_neg (by omega)
        have e2 : bhP n k w = .non := if_pos h0
        rw [e1, e2]
        apply sv_ifF
        · apply eb_or (b := false) (c := false)
          · apply eb_and (b := true) (c := false); (apply eb_B; exact ep_isN (p := .non) (ef_ep (ep_var rfl))); intro _; (apply eb_B; exact ep_notN (p := .non) (ef_ep (ep_var rfl)))
          · intro _; apply eb_andF; (apply eb_B; exact ep_notN (p := .non) (ef_ep (ep_var rfl))); rfl
        · rfl
        · apply sv_next; exact ni_refl ⟨rfl, _, _, _, _, _, rfl⟩
      · have e1 : afP K n k w = rP K (bhd n k w) := if_pos (by omega)
        have e2 : bhP n k w = nP (bhd n k w) := if_neg h0
        rw [e1, e2]
        apply sv_ifF
        · apply eb_or (b := false) (c := false)
          · apply eb_andF; (apply eb_B; exact ep_isN (p := nP (bhd n k w)) (ef_ep (ep_var rfl))); rfl
          · intro _; apply eb_and (b := true) (c := false); (apply eb_B; exact ep_notN (p := nP (bhd n k w)) (ef_ep (ep_var rfl))); intro _
            apply eb_or (b := false) (c := false)
            · apply eb_not (b := true); apply eb_B; apply ep_isi (p := rP K (bhd n k w)); (apply ef_ep; exact ep_var rfl); exact .own _; exact (fun C e => by cases e; exact kf.ci); exact kf.ki
            · intro _; apply eb_not (b := true); apply eb_B
              refine ca_law_is (n := 3) (p := .lst (iP5 (bhd n k w))) (q := .lst (iP5 (bhd n k w))) (eps_cons (ca__law_five (eps_cons (ep_var rfl) eps_nil)) (eps_cons (ep_cb (eps_cons (ep_var rfl) eps_nil) (rc_list rfl)) eps_nil)) rfl ?_
              simp [okq, okqs]
        · rfl
        · apply sv_next; exact ni_refl ⟨rfl, _, _, _, _, _, rfl⟩
    · rintro Γ1 M1 ⟨rfl, x4, x5, x6, x7, x8, rfl⟩
      refine ⟨[some (.v (nP n)), some (.v (rP K n)), some (.v (.bl r)), some (.v (.int k)), none, none, none, none, none], [], nrm_drop (M0 := []) (C := [.l wl]) (Nat.le_refl _) rfl rfl fun i d e => ?_, rfl, _, _, _, _, _, _, rfl⟩
      match i, e with
      | 0, e => cases e; exact ⟨rfl, rfl⟩
      | 1, e => cases e; exact ⟨rfl, rfl⟩
      | 2, e => cases e; exact ⟨rfl, rfl⟩
      | 3, e => cases e; exact ⟨rfl, rfl⟩
      | 4, e => cases e
      | 5, e => cases e
      | 6, e => cases e
      | 7, e => cases e
      | 8, e => cases e
      | i + 9, e => cases e
  · rintro Γ1 M1 ⟨rfl, x3, x4, x5, x6, x7, x8, rfl⟩
    apply sv_retP; trivial; exact fz_is rfl
end
end R35
set_option maxRecDepth 100000
set_option maxHeartbeats 4000000
namespace R35
open PySem PySem.Spec PyProof.Rows L2 Z
def wth (n : C5) (k d : Int) : C5 := if k = 1 then ⟨n.a + d, n.b, n.s, n.x, n.y⟩ else ⟨n.a, n.b + d, n.s, n.x, n.y⟩
theorem lead_sum {n : C5} {k : Int} (hs : 0 ≤ n.s) (hk : k = 1 ∨ k = 2) : lead n k + lead n (3 - k) ≤ 0 := by
  obtain ⟨a, b, s, x, y⟩ := n
  have hs : 0 ≤ s := hs
  rcases hk with rfl | rfl <;> simp [lead, need, oc, ey] <;> grind
theorem lead_wth {n : C5} {k d : Int} (hk : k = 1 ∨ k = 2) : lead (wth n k d) k = lead n k + d ∧ lead (wth n k d) (3 - k) = lead n (3 - k) - d := by
  rcases hk with rfl | rfl <;> simp [wth, lead, need, oc, ey] <;> omega
abbrev tkN (n : C5) (k f : Int) : Int := max 0 ((if k = f then 0 else 1) - lead n k)
abbrev syN (n : C5) (k f : Int) : Int := max 0 (lead n (3 - k) + (if k = f then 0 else 1))
theorem take_ok {n : C5} {k f l : Int} (hs : 0 ≤ n.s) (hk : k = 1 ∨ k = 2) (hf : f = 1 ∨ f = 2) (hl : l = 0 ∨ (l = 1 ∧ 0 < tkN n k f)) : (rsl (wth n k (tkN n k f - l)) f = k) ↔ l = 0 := by
  have h1 := lead_sum (n := n) hs hk
  obtain ⟨e1, e2⟩ := lead_wth (n := n) (k := k) (d := tkN n k f - l) hk
  have hff : f = k ∨ f = 3 - k := by omega
  have e3 : 3 - (3 - k) = k := by omega
  unfold rsl
  rcases hff with rfl | rfl
  · rw [e1, e2]
    simp only [tkN, if_pos] at hl ⊢
    generalize lead n f = u at *
    generalize lead n (3 - f) = v at *
    split <;> (try split) <;> omega
  · rw [e3, e1, e2]
    have hne : ¬ k = 3 - k := by omega
    simp only [tkN, if_neg hne] at hl ⊢
    generalize lead n k = u at *
    generalize lead n (3 - k) = v at *
    split <;> (try split) <;> omega
theorem stay_ok {n : C5} {k f l : Int} (hs : 0 ≤ n.s) (hk : k = 1 ∨ k = 2) (hf : f = 1 ∨ f = 2) (hl : l = 0 ∨ (l = 1 ∧ 0 < syN n k f)) : (rsl (wth n k (syN n k f - l)) f = k ∨ rsl (wth n k (syN n k f - l)) f = 0) ↔ l = 0 := by
  have h1 := lead_sum (n := n) hs hk
  obtain ⟨e1, e2⟩ := lead_wth (n := n) (k := k) (d := syN n k f - l) hk
  have hff : f = k ∨ f = 3 - k := by omega
  have e3 : 3 - (3 - k) = k := by omega
  unfold rsl
  rcases hff with rfl | rfl
  · rw [e1, e2]
    simp only [syN, if_pos] at hl ⊢
    generalize lead n f = u at *
    generalize lead n (3 - f) = v at *
    split <;> (try split) <;> omega
  · rw [e3, e1, e2]
    have hne : ¬ k = 3 - k := by omega
    simp only [syN, if_neg hne] at hl ⊢
    generalize lead n k = u at *
    generalize lead n (3 - k) = v at *
    split <;> (try split) <;> omega
theorem rc_maxB2 {K : PySem.W.Frag} {i j : Int} : RC K (rMaxB K) [.int i, .int j] (.int (if j > i then j else i)) := fun X H xs hx r Q k => .inl (rc_max2 X H xs hx r Q k)
theorem inP_1 {x k : Int} : inP (.int x) [.int k] = decide (x = k) := by
  simp [inP, toV, inV, eqV, Bool.beq_eq_decide_eq, eq_comm]
theorem inP_2 {x k : Int} : inP (.int x) [.int k, .int 0] = decide (x = k ∨ x = 0) := by
  simp [inP, toV, inV, eqV, Bool.beq_eq_decide_eq, eq_comm]
theorem wf_wth {n : C5} {k d : Int} (w : wfN n) (hd : 0 ≤ d) : wfN (wth n k d) := by
  obtain ⟨w1, w2, w3, w4, w5, w6, w7⟩ := w
  unfold wth
  split <;> constructor <;> dsimp only <;> omega
section
variable {K : PySem.W.Frag} {Γ : Z.Env} {M : Mem} {E : XK} {t : TA} {a b c d e i j h k f : Int} {r : Bool} {p q : P} {ps qs : List P} {te : TE} {n : C5} {w : Str} {Φ : Mem → D → Prop}
local macro_rules | `(tactic| get_elem_tactic_trivial) => `(tactic| first
  | exact rv_plus_i | exact rv_ii | exact rv_ib | exact rv_eq_ii | exact rv_ne_ii | exact rv_eq_ss | exact rv_ne_ss | exact rv_eq_bb | exact rv_ne_bb | exact rv_ixT rfl | exact rv_ixL rfl
  | exact rv_plus_t (Nat.le_of_ble_eq_true rfl) | exact rv_plus_l (Nat.le_of_ble_eq_true rfl) | exact rv_plus_s (Nat.le_of_ble_eq_true rfl) | exact rv_isB | exact rv_inL rfl rfl | exact rv_inT rfl rfl | exact rv_ic (by decide))
local macro_rules | `(tactic| decreasing_trivial) => `(tactic| first
  | exact rc_len rfl | exact rc_int | exact rc_intB | exact rc_abs | exact rc_tupleL | exact rc_tupleT | exact rc_list rfl | exact rc_max2 | exact rc_min2)
local macro_rules | `(tactic| trivial) => `(tactic| first
  | exact ep_int | exact ep_str | exact ep_bl | exact ep_non
  | exact ep_var rfl
  | (apply ep_op; trivial; trivial; get_elem_tactic_trivial)
  | (apply ep_cb; trivial; decreasing_trivial)
  | (apply ep_andF; trivial; rfl)
  | (apply ep_andV; trivial; intro _; trivial)
  | (apply ep_orT; trivial; rfl)
  | (apply ep_orV; trivial; intro _; trivial)
  | (apply ep_notV; trivial)
  | (apply ep_isN; trivial) | (apply ep_notN; trivial)
  | (apply ep_un; trivial; exact ru_i)
  | (apply ep_tup; trivial; exact Nat.le_of_ble_eq_true rfl) | (apply ep_lst; trivial; exact Nat.le_of_ble_eq_true rfl)
  | (apply ep_chain; trivial; trivial; get_elem_tactic_trivial; intro _; trivial; intro _; get_elem_tactic_trivial)
  | exact eps_nil | (apply eps_cons; trivial; trivial) | (apply eps_star; trivial; rfl; trivial)
  | (apply ef_ep; trivial)
  | (apply eb_B; trivial) | (apply eb_test; trivial)
  | (apply eb_andF; trivial; rfl)
  | (apply eb_and; trivial; intro _; trivial)
  | (apply eb_orT; trivial; rfl)
  | (apply eb_or; trivial; intro _; trivial)
  | (apply eb_not; trivial)
  | (apply ep_ifT; trivial; rfl; trivial) | (apply ep_ifF; trivial; rfl; trivial)
  | (apply ep_ifI; trivial; intro _; trivial; intro _; trivial) | (apply ep_ifL; trivial; intro _; trivial; intro _; trivial)
  | (apply ep_isi_int; trivial; first | rfl | assumption) | (apply ep_isi_bool; trivial; first | rfl | assumption) | (apply ep_isi_tuple; trivial; first | rfl | assumption) | (apply ep_isi_str; trivial; first | rfl | assumption)
  | (apply ep_isi_list; trivial; first | rfl | assumption) | (apply ep_isi_lt; trivial; first | rfl | assumption))
local macro_rules | `(tactic| trivial) => `(tactic| (apply ca_is_integer; trivial; first | rfl | assumption))
local macro_rules | `(tactic| trivial) => `(tactic| (apply ca_is_count; trivial))
local macro_rules | `(tactic| trivial) => `(tactic| (apply ca_is_between; trivial; first | rfl | assumption))
local macro_rules | `(tactic| trivial) => `(tactic| (apply ca_is_color; trivial; first | rfl | assumption))
local macro_rules | `(tactic| trivial) => `(tactic| (apply ca_other_color; trivial))
local macro_rules | `(tactic| trivial) => `(tactic| (apply ca_counts_of; trivial))
local macro_rules | `(tactic| trivial) => `(tactic| (apply ca_outside_in; trivial; first | assumption | exact .inl rfl | exact .inr rfl))
local macro_rules | `(tactic| trivial) => `(tactic| (apply ca_eye_in; trivial; first | assumption | exact .inl rfl | exact .inr rfl))
local macro_rules | `(tactic| trivial) => `(tactic| (apply ca_liberties_in; trivial; first | assumption | exact .inl rfl | exact .inr rfl))
abbrev S_law_best_right (K : PySem.W.Frag) : Sp := PF K (fun x : C5 × Bool => [nP x.1, rP K x.1, .bl x.2]) (fun x => wfN x.1) (fun _ r => r = .bl true)
theorem pl__law_best_right (n : C5) (r : Bool) (wn : wfN n) : SV K 0 (t__law_best_right K (S_law_best_words K) (Sbest_race_moves K) (S_law_is K 3)) (startE 6 [.v (nP n), .v (rP K n), .v (.bl r)]) [] (DR (· = .bl true)) := by
  unfold t__law_best_right
  have hs : 0 ≤ n.s := wn.s
  apply sv_seq; apply sv_for; apply ei_ip; apply eip_seq (p := .tup [.int 1, .int 2]); trivial; rfl
  refine ⟨fun i Γ M => M = [] ∧ ∃ x3 x4 x5, Γ = [some (.v (nP n)), some (.v (rP K n)), some (.v (.bl r)), x3, x4, x5], ⟨rfl, _, _, _, rfl⟩, ?_, ?_⟩
  · rintro i p Γ1 M1 hp ⟨rfl, x3, x4, x5, rfl⟩
    obtain ⟨k, hk, rfl⟩ := in12 hp
    apply gv_name
    apply sv_seq; apply sv_set; (apply ca_lbestD; trivial; exact hs; exact hk)
    apply sv_seq; apply sv_asg
    apply ev_ifB; trivial
    all_goals intro _
    case' h1 => apply ca_best; trivial; exact hk
    case' h2 => apply cn_best; trivial; exact hk
    all_goals
      show SV K 0 _ [some (.v (nP n)), some (.v (rP K n)), some (.v (.bl r)), some (.v (.int k)), some (.v (.lst ((bst n k).map wP))), some (.c 0)] [.l (optD (bst n k))] _
      apply sv_seq; apply sv_ifF
      · apply eb_not (b := true); apply eb_B
        exact ce_law_is (n := 3) (p := .lst ((bst n k).map wP)) (efs_cons (ef_var rfl (.c (Nat.zero_le _) rfl (fzs_opts _))) (efs_cons (ef_ep (ep_var rfl)) efs_nil)) rfl okq_bst
      · rfl
      apply sv_next
      have hl : (optD (bst n k)).length < 100 := by
        have h1 := opts_len (n := n) (k := k)
        have h2 : (bst n k).length ≤ (opts n k).length := List.length_filter_le _ _
        rw [List.length_map]; omega
      apply sv_seq; apply sv_drop; apply ev_bm; apply ev_var rfl; refine ⟨0, _, rfl, rfl, ?_⟩
      apply ea_ep; apply eps_cons; trivial; exact eps_nil
      refine ⟨_, _, _, rfl, mv_append (by omega), ?_⟩
      generalize (optD (bst n k) ++ [D.v (P.str "more")]) = wl
      apply sv_ifF
      · apply eb_not (b := true); apply eb_B
        exact ca_law_is (n := 3) (p := .lst ((bst n k).map wP)) (eps_cons (ca_bestD (eps_cons (ep_var rfl) (eps_cons (ep_var rfl) eps_nil)) hk) (eps_cons (ep_var rfl) eps_nil)) rfl okq_bst
      · rfl
      apply sv_next
      refine ⟨[some (.v (nP n)), some (.v (rP K n)), some (.v (.bl r)), none, none, none], [], nrm_drop (M0 := []) (C := [.l wl]) (Nat.le_refl _) rfl rfl fun i d e => ?_, rfl, _, _, _, rfl⟩
      match i, e with
      | 0, e => cases e; exact ⟨rfl, rfl⟩
      | 1, e => cases e; exact ⟨rfl, rfl⟩
      | 2, e => cases e; exact ⟨rfl, rfl⟩
      | 3, e => cases e
      | 4, e => cases e
      | 5, e => cases e
      | i + 6, e => cases e
  · rintro Γ1 M1 ⟨rfl, x3, x4, x5, rfl⟩
    apply sv_retP; trivial; exact fz_is rfl
theorem ca_otake (hh : EPs K t Γ M [rP K n, .int k, .int f]) (hk : k = 1 ∨ k = 2) (hf : f = 1 ∨ f = 2) : Z.EP K (tCall (Soutside_to_take K) [] E t) Γ M (.int (tkN n k f)) := ep_call hh (n, k, f) rfl ⟨hk, hf⟩ (fun _ h => h)
theorem cn_otake (hh : EPs K t Γ M [.int f, .int k, rP K n]) (hk : k = 1 ∨ k = 2) (hf : f = 1 ∨ f = 2) : Z.EP K (tCallN 0 (List.length (α := Str) ["first", "color", "race"]) (Soutside_to_take K) (fun vs zs => perm [2, 1, 0] (vs ++ zs)) E tNil t) Γ M (.int (tkN n k f)) := ep_callN eps_nil hh rfl rfl (n, k, f) rfl ⟨hk, hf⟩ (fun _ h => h)
theorem ca_ostay (hh : EPs K t Γ M [rP K n, .int k, .int f]) (hk : k = 1 ∨ k = 2) (hf : f = 1 ∨ f = 2) : Z.EP K (tCall (Soutside_to_stay K) [] E t) Γ M (.int (syN n k f)) := ep_call hh (n, k, f) rfl ⟨hk, hf⟩ (fun _ h => h)
theorem cn_ostay (hh : EPs K t Γ M [.int f, .int k, rP K n]) (hk : k = 1 ∨ k = 2) (hf : f = 1 ∨ f = 2) : Z.EP K (tCallN 0 (List.length (α := Str) ["first", "color", "race"]) (Soutside_to_stay K) (fun vs zs => perm [2, 1, 0] (vs ++ zs)) E tNil t) Γ M (.int (syN n k f)) := ep_callN eps_nil hh rfl rfl (n, k, f) rfl ⟨hk, hf⟩ (fun _ h => h)
/-- race[:color - 1] + (race[color - 1] + many - less,) + race[color:] -/
theorem ep_more {Γ : Z.Env} {M : Mem} {ci mi li : Nat} {many l : Int} (hk : k = 1 ∨ k = 2) (g0 : Γ[0]? = some (some (.v (nP n)))) (g1 : Γ[ci]? = some (some (.v (.int k)))) (g2 : Γ[mi]? = some (some (.v (.int many)))) (g3 : Γ[li]? = some (some (.v (.int l)))) :
    Z.EP K (tOp (rPlus K) (tOp (rPlus K) (tSl (rSlSeq K) (tVar 0) tNoPart (tPart (tOp (rI0 fun i j => .int (i - j)) (tVar ci) (tC (.int 1))))) (tTup (tCons (tOp (rI0 fun i j => .int (i - j)) (tOp (rPlus K) (tOp (rIx K) (tVar 0) (tOp (rI0 fun i j => .int (i - j)) (tVar ci) (tC (.int 1)))) (tVar mi)) (tVar li)) tNil))) (tSl (rSlSeq K) (tVar 0) (tPart (tVar ci)) tNoPart)) Γ M (nP (wth n k (many - l))) := by
  rcases hk with rfl | rfl
  · refine ep_is (ep_op (ep_op (ep_sl (ep_var g0) eo_none (eo_some (ep_op (ep_var g1) ep_int rv_ii)) slv_t) (ep_tup (eps_cons (ep_op (ep_op (ep_op (ep_var g0) (ep_op (ep_var g1) ep_int rv_ii) (rv_ixT rfl)) (ep_var g2) rv_plus_i) (ep_var g3) rv_ii) eps_nil) (Nat.le_of_ble_eq_true rfl)) (rv_plus_t (Nat.le_of_ble_eq_true rfl))) (ep_sl (ep_var g0) (eo_some (ep_var g1)) eo_none slv_t) (rv_plus_t (Nat.le_of_ble_eq_true rfl))) ?_
    show P.tup [.int (n.a + many - l), .int n.b, .int n.s, .int n.x, .int n.y] = P.tup [.int (n.a + (many - l)), .int n.b, .int n.s, .int n.x, .int n.y]
    rw [Int.add_sub_assoc]
  · refine ep_is (ep_op (ep_op (ep_sl (ep_var g0) eo_none (eo_some (ep_op (ep_var g1) ep_int rv_ii)) slv_t) (ep_tup (eps_cons (ep_op (ep_op (ep_op (ep_var g0) (ep_op (ep_var g1) ep_int rv_ii) (rv_ixT rfl)) (ep_var g2) rv_plus_i) (ep_var g3) rv_ii) eps_nil) (Nat.le_of_ble_eq_true rfl)) (rv_plus_t (Nat.le_of_ble_eq_true rfl))) (ep_sl (ep_var g0) (eo_some (ep_var g1)) eo_none slv_t) (rv_plus_t (Nat.le_of_ble_eq_true rfl))) ?_
    show P.tup [.int n.a, .int (n.b + many - l), .int n.s, .int n.x, .int n.y] = P.tup [.int n.a, .int (n.b + (many - l)), .int n.s, .int n.x, .int n.y]
    rw [Int.add_sub_assoc]
abbrev S_law_missing_right (K : PySem.W.Frag) : Sp := PF K (fun x : C5 × Bool => [nP x.1, rP K x.1, .bl x.2]) (fun x => wfN x.1) (fun _ r => r = .bl true)
theorem pl__law_missing_right (n : C5) (r : Bool) (wn : wfN n) : SV K 0 (t__law_missing_right K (S_law_lead K) (Soutside_to_take K) (Soutside_to_stay K) (S_law_is K 3) (Srace_result K) (S_law_race K) (S_law_result K)) (startE 13 [.v (nP n), .v (rP K n), .v (.bl r)]) [] (DR (· = .bl true)) := by
  unfold t__law_missing_right
  have hs : 0 ≤ n.s := wn.s
  apply sv_seq; apply sv_for; apply ei_ip; apply eip_seq (p := .tup [.int 1, .int 2]); trivial; rfl
  refine ⟨fun i Γ M => M = [] ∧ ∃ x3 x4 x5 x6 x7 x8 x9 x10 x11 x12, Γ = [some (.v (nP n)), some (.v (rP K n)), some (.v (.bl r)), x3, x4, x5, x6, x7, x8, x9, x10, x11, x12], ⟨rfl, _, _, _, _, _, _, _, _, _, _, rfl⟩, ?_, ?_⟩
  · rintro i p Γ1 M1 hp ⟨rfl, x3, x4, x5, x6, x7, x8, x9, x10, x11, x12, rfl⟩
    obtain ⟨k, hk, rfl⟩ := in12 hp
    apply gv_name
    apply sv_for; apply ei_ip; apply eip_seq (p := .tup [.int 1, .int 2]); trivial; rfl
    refine ⟨fun i Γ M => M = [] ∧ ∃ x4 x5 x6 x7 x8 x9 x10 x11 x12, Γ = [some (.v (nP n)), some (.v (rP K n)), some (.v (.bl r)), some (.v (.int k)), x4, x5, x6, x7, x8, x9, x10, x11, x12], ⟨rfl, _, _, _, _, _, _, _, _, _, rfl⟩, ?_, ?_⟩
    · rintro i p Γ1 M1 hp ⟨rfl, x4, x5, x6, x7, x8, x9, x10, x11, x12, rfl⟩
      obtain ⟨f, hf, rfl⟩ := in12 hp
      apply gv_name
      apply sv_seq; apply sv_set (p := .int (tkN n k f))
      · refine ep_cast (ep_cb (eps_cons ep_int (eps_cons (ep_op (ep_op ep_int (ca__law_lead (n := n) (k := k) (eps_cons (ep_var rfl) (eps_cons (ep_var rfl) eps_nil)) hs hk) rv_ii) (ep_cb (eps_cons (ep_op (ep_var rfl) (ep_var rfl) rv_ne_ii) eps_nil) rc_intB) rv_plus_i) eps_nil)) rc_maxB2) ?_
        rw [max_if]
        congr 2
        by_cases h : k = f
        · subst h; simp
        · rw [if_neg h, if_pos (by simpa using fun z => h z.symm)]; omega
      apply sv_seq; apply sv_set (p := .int (syN n k f))
      · refine ep_cast (ep_cb (eps_cons ep_int (eps_cons (ep_op (ca__law_lead (n := n) (k := 3 - k) (eps_cons (ep_var rfl) (eps_cons (ep_op ep_int (ep_var rfl) rv_ii) eps_nil)) hs (by omega)) (ep_cb (eps_cons (ep_op (ep_var rfl) (ep_var rfl) rv_ne_ii) eps_nil) rc_intB) rv_plus_i) eps_nil)) rc_maxB2) ?_
        rw [max_if]
        congr 2
        by_cases h : k = f
        · subst h; simp
        · rw [if_neg h, if_pos (by simpa using fun z => h z.symm)]
      apply sv_seq; apply sv_set (p := .lst [.int (tkN n k f), .int (syN n k f)])
      · apply ep_lst
        · apply eps_cons; (apply ca_otake; trivial; exact hk; exact hf); apply eps_cons; (apply cn_ostay; trivial; exact hk; exact hf); exact eps_nil
        · exact Nat.le_of_ble_eq_true rfl
      apply sv_seq; apply sv_ifJ (G := [some (.v (nP n)), some (.v (rP K n)), some (.v (.bl r)), some (.v (.int k)), some (.v (.int f)), some (.v (.int (tkN n k f))), some (.v (.int (syN n k f))), some (.v (.lst [.int (tkN n k f), .int (syN n k f)])), x8, x9, x10, x11, x12]) (M1 := []); trivial
      · intro _
        apply sv_set (p := .lst [.int (tkN n k f), .int (syN n k f)])
        · apply ep_lst
          · apply eps_cons; (apply cn_otake; trivial; exact hk; exact hf); apply eps_cons; (apply ca_ostay; trivial; exact hk; exact hf); exact eps_nil
          · exact Nat.le_of_ble_eq_true rfl
        exact ⟨rfl, rfl⟩
      · intro _; apply sv_next; exact ⟨rfl, rfl⟩
      apply sv_seq; apply sv_ifF
      · apply eb_not (b := true); apply eb_B
        refine ca_law_is (n := 3) (p := .lst [.int (tkN n k f), .int (syN n k f)]) (q := .lst [.int (tkN n k f), .int (syN n k f)]) (eps_cons (ep_var rfl) (eps_cons (by trivial) eps_nil)) rfl ?_
        simp [okq, okqs]
      · rfl
      apply sv_next
      have tk0 : 0 ≤ tkN n k f := by unfold tkN; omega
      have sy0 : 0 ≤ syN n k f := by unfold syN; omega
      -- both goals
      have go : ∀ (many : Int) (gl : List P), 0 ≤ many → gl.all flat = true → (∀ l, l = 0 ∨ (l = 1 ∧ 0 < many) → inP (.int (rsl (wth n k (many - l)) f)) gl = decide (l = 0)) → ∀ x10 x11 x12,
          SV K 0 (tFor (iSeq K (tSl (rSlSeq K) (tTup (tCons (tC (.int 0)) (tCons (tC (.int 1)) tNil))) tNoPart (tPart (tOp (rPlus K) (tC (.int 1)) (tCB rIntO (tCons (tOp (rI0 fun i j => .bl (decide (j < i))) (tVar 8) (tC (.int 0))) tNil)))))) (gName 10) (tSeq (tAsg (tOp (rPlus K) (tOp (rPlus K) (tSl (rSlSeq K) (tVar 0) tNoPart (tPart (tOp (rI0 fun i j => .int (i - j)) (tVar 3) (tC (.int 1))))) (tTup (tCons (tOp (rI0 fun i j => .int (i - j)) (tOp (rPlus K) (tOp (rIx K) (tVar 0) (tOp (rI0 fun i j => .int (i - j)) (tVar 3) (tC (.int 1)))) (tVar 8)) (tVar 10)) tNil))) (tSl (rSlSeq K) (tVar 0) (tPart (tVar 3)) tNoPart)) (gName 11))
            (tSeq (tIfS (tTest (tOp (rI0 fun i j => .bl (decide (j ≤ i))) (tCB (rMaxB K) (tCons (tVar 11) tNil)) (tOp (rI CPow fun i j => .int (i ^ j.toNat)) (tC (.int 10)) (tC (.int 20))))) tCont tNext)
            (tSeq (tAsg (tCall (Srace_result K) [] E0 (tCons (tCall (S_law_race K) [] E0 (tCons (tVar 11) (tCons (tVar 2) tNil))) (tCons (tVar 4) tNil))) (gName 12))
            (tIfS (tOr (tNot (tB (tCall (S_law_is K 3) [] E0 (tCons (tVar 12) (tCons (tCall (S_law_result K) [] E0 (tCons (tVar 11) (tCons (tVar 4) tNil))) tNil))))) (tTest (tOp (rNeA K) (tOp (rIn K false) (tVar 12) (tVar 9)) (tOp (rEqA K) (tVar 10) (tC (.int 0)))))) (tRet (tC (.bl false))) tNext)))))
          [some (.v (nP n)), some (.v (rP K n)), some (.v (.bl r)), some (.v (.int k)), some (.v (.int f)), some (.v (.int (tkN n k f))), some (.v (.int (syN n k f))), some (.v (.lst [.int (tkN n k f), .int (syN n k f)])), some (.v (.int many)), some (.v (.lst gl)), x10, x11, x12] []
          { nx := NI K 0 fun Γ M => M = [] ∧ ∃ x8 x9 x10 x11 x12, Γ = [some (.v (nP n)), some (.v (rP K n)), some (.v (.bl r)), some (.v (.int k)), some (.v (.int f)), some (.v (.int (tkN n k f))), some (.v (.int (syN n k f))), some (.v (.lst [.int (tkN n k f), .int (syN n k f)])), x8, x9, x10, x11, x12], rt := fun M d => ∃ r, Fz 0 M d r ∧ r = .bl true } := by
        intro many gl m0 hgf hg x10 x11 x12
        apply sv_for; apply ei_ip; apply eip_seq (p := .tup (if 0 < many then [.int 0, .int 1] else [.int 0]))
        · refine ep_is (ep_sl (ep_tup (eps_cons ep_int (eps_cons ep_int eps_nil)) (Nat.le_of_ble_eq_true rfl)) eo_none (eo_some (ep_op ep_int (ep_cb (eps_cons (ep_op (ep_var rfl) ep_int rv_ib) eps_nil) rc_intB) rv_plus_i)) slv_t) ?_
          by_cases hm : 0 < many
          · rw [if_pos hm, decide_eq_true hm]; rfl
          · rw [if_neg hm, decide_eq_false hm]; rfl
        · rfl
        refine ⟨fun i Γ M => M = [] ∧ ∃ x10 x11 x12, Γ = [some (.v (nP n)), some (.v (rP K n)), some (.v (.bl r)), some (.v (.int k)), some (.v (.int f)), some (.v (.int (tkN n k f))), some (.v (.int (syN n k f))), some (.v (.lst [.int (tkN n k f), .int (syN n k f)])), some (.v (.int many)), some (.v (.lst gl)), x10, x11, x12], ⟨rfl, _, _, _, rfl⟩, ?_, ?_⟩
        · rintro i p Γ1 M1 hp ⟨rfl, x10, x11, x12, rfl⟩
          have hl : ∃ l : Int, (l = 0 ∨ (l = 1 ∧ 0 < many)) ∧ p = .int l := by
            by_cases hm : 0 < many
            · rw [if_pos hm] at hp
              match i, hp with
              | 0, h => cases h; exact ⟨0, .inl rfl, rfl⟩
              | 1, h => cases h; exact ⟨1, .inr ⟨rfl, hm⟩, rfl⟩
            · rw [if_neg hm] at hp
              match i, hp with
              | 0, h => cases h; exact ⟨0, .inl rfl, rfl⟩
          obtain ⟨l, hl, rfl⟩ := hl
          have wm : wfN (wth n k (many - l)) := wf_wth wn (by omega)
          apply gv_name
          apply sv_seq; apply sv_set; exact ep_more (n := n) (k := k) (many := many) (l := l) hk rfl rfl rfl rfl
          apply sv_seq; apply sv_if; apply et_test; apply ev_op
          refine ev_maxT (ns := [(wth n k (many - l)).a, (wth n k (many - l)).b, (wth n k (many - l)).s, (wth n k (many - l)).x, (wth n k (many - l)).y]) (eps_cons (ep_var rfl) eps_nil) (Nat.succ_pos _) fun mm => ⟨_, rfl, ?_⟩
          apply ev_ep; exact ep_op ep_int ep_int (rv_ic ⟨by decide, by decide, by decide⟩)
          refine ⟨_, rfl, _, rv_ib, _, rfl, ?_⟩
          split
          · apply sv_cont; exact ni_refl ⟨rfl, _, _, _, rfl⟩
          apply sv_next
          apply sv_seq; apply sv_set; exact ca_rrsl (n := wth n k (many - l)) (k := f) (eps_cons (ca__law_race (eps_cons (ep_var rfl) (eps_cons (ep_var rfl) eps_nil)) wm) (eps_cons (ep_var rfl) eps_nil)) hf
          apply sv_ifF
          · apply eb_or (b := false) (c := false)
            · apply eb_not (b := true); apply eb_B
              exact ca_law_is (n := 3) (eps_cons (ep_var rfl) (eps_cons (ca__law_result (n := wth n k (many - l)) (k := f) (eps_cons (ep_var rfl) (eps_cons (ep_var rfl) eps_nil)) wm.s hf) eps_nil)) rfl okq_int
            · intro _
              refine eb_is (eb_test (ep_op (ep_op (ep_var rfl) (ep_var rfl) (rv_inL rfl hgf)) (ep_op (ep_var rfl) ep_int rv_eq_ii) rv_ne_bb)) ?_
              show (inP (.int (rsl (wth n k (many - l)) f)) gl != decide (l = 0)) = false
              rw [hg l hl]
              simp
          · rfl
          · apply sv_next; exact ni_refl ⟨rfl, _, _, _, rfl⟩
        · rintro Γ1 M1 ⟨rfl, x10, x11, x12, rfl⟩
          exact ni_refl ⟨rfl, _, _, _, _, _, rfl⟩
      apply sv_for; apply ei_ip; apply eip_seq (p := .tup [.tup [.int (tkN n k f), .lst [.int k]], .tup [.int (syN n k f), .lst [.int k, .int 0]]]); trivial; rfl
      refine ⟨fun i Γ M => M = [] ∧ ∃ x8 x9 x10 x11 x12, Γ = [some (.v (nP n)), some (.v (rP K n)), some (.v (.bl r)), some (.v (.int k)), some (.v (.int f)), some (.v (.int (tkN n k f))), some (.v (.int (syN n k f))), some (.v (.lst [.int (tkN n k f), .int (syN n k f)])), x8, x9, x10, x11, x12], ⟨rfl, _, _, _, _, _, rfl⟩, ?_, ?_⟩
      · rintro i p Γ1 M1 hp ⟨rfl, x8, x9, x10, x11, x12, rfl⟩
        match i, hp with
        | 0, hp =>
          cases hp
          apply gv_tup rfl; apply gvs_cons; apply gv_name; apply gvs_cons; apply gv_name; apply gvs_nil
          refine (go _ [.int k] tk0 rfl (fun l hl => ?_) _ _ _).imp (fun _ _ h => h) (fun _ _ h => h) (fun _ _ h => h.elim) (fun _ _ h => h.elim)
          rw [inP_1, decide_eq_decide]
          exact take_ok hs hk hf hl
        | 1, hp =>
          cases hp
          apply gv_tup rfl; apply gvs_cons; apply gv_name; apply gvs_cons; apply gv_name; apply gvs_nil
          refine (go _ [.int k, .int 0] sy0 rfl (fun l hl => ?_) _ _ _).imp (fun _ _ h => h) (fun _ _ h => h) (fun _ _ h => h.elim) (fun _ _ h => h.elim)
          rw [inP_2, decide_eq_decide]
          exact stay_ok hs hk hf hl
      · rintro Γ1 M1 ⟨rfl, x8, x9, x10, x11, x12, rfl⟩
        exact ni_refl ⟨rfl, _, _, _, _, _, _, _, _, _, rfl⟩
    · rintro Γ1 M1 ⟨rfl, x4, x5, x6, x7, x8, x9, x10, x11, x12, rfl⟩
      exact ni_refl ⟨rfl, _, _, _, _, _, _, _, _, _, _, rfl⟩
  · rintro Γ1 M1 ⟨rfl, x3, x4, x5, x6, x7, x8, x9, x10, x11, x12, rfl⟩
    apply sv_retP; trivial; exact fz_is rfl
end
end R35
set_option maxRecDepth 100000
set_option maxHeartbeats 4000000
namespace R35
open PySem PySem.Spec PyProof.Rows L2 Z
theorem pEq_n {n m : C5} : pEq (nP n) (nP m) = (n.a == m.a && (n.b == m.b && (n.s == m.s && (n.x == m.x && n.y == m.y)))) := by
  simp [pEq, py, pys, PyData.eqv, PyData.eqvAll]
theorem pEq_sym {n m : C5} : pEq (nP n) (nP m) = pEq (nP m) (nP n) := by
  rw [pEq_n, pEq_n, Bool.beq_comm (a := n.a), Bool.beq_comm (a := n.b), Bool.beq_comm (a := n.s), Bool.beq_comm (a := n.x), Bool.beq_comm (a := n.y)]
theorem pEq_self {n : C5} : pEq (nP n) (nP n) = true := by
  rw [pEq_n]; simp
def at5 (n : C5) (i b : Int) : C5 := ⟨n.a + (if i = 0 then b else 0), n.b + (if i = 1 then b else 0), n.s + (if i = 2 then b else 0), n.x + (if i = 3 then b else 0), n.y + (if i = 4 then b else 0)⟩
theorem at5_wf {n : C5} {i b : Int} (w : wfN n) (hb : 1 ≤ b) : wfN (at5 n i b) := by
  obtain ⟨w1, w2, w3, w4, w5, w6, w7⟩ := w
  unfold at5
  constructor <;> dsimp only <;> (repeat' split) <;> omega
theorem at5_ne {n : C5} {i : Nat} {b : Int} (hi : i < 5) (hb : 1 ≤ b) : pEq (nP n) (nP (at5 n i b)) = false := by
  rw [pEq_n]
  unfold at5
  have h : i = 0 ∨ i = 1 ∨ i = 2 ∨ i = 3 ∨ i = 4 := by omega
  rcases h with rfl | rfl | rfl | rfl | rfl <;> simp <;> omega
section
variable {K : PySem.W.Frag} {Γ : Z.Env} {M : Mem} {E : XK} {t : TA} {a b c d e i j h k f : Int} {r : Bool} {p q : P} {ps qs : List P} {te : TE} {n : C5} {w : Str} {Φ : Mem → D → Prop}
local macro_rules | `(tactic| get_elem_tactic_trivial) => `(tactic| first
  | exact rv_plus_i | exact rv_ii | exact rv_ib | exact rv_eq_ii | exact rv_ne_ii | exact rv_eq_ss | exact rv_ne_ss | exact rv_eq_bb | exact rv_ne_bb | exact rv_ixT rfl | exact rv_ixL rfl
  | exact rv_plus_t (Nat.le_of_ble_eq_true rfl) | exact rv_plus_l (Nat.le_of_ble_eq_true rfl) | exact rv_plus_s (Nat.le_of_ble_eq_true rfl) | exact rv_isB | exact rv_inL rfl rfl | exact rv_inT rfl rfl | exact rv_ic (by decide))
local macro_rules | `(tactic| decreasing_trivial) => `(tactic| first
  | exact rc_len rfl | exact rc_int | exact rc_intB | exact rc_abs | exact rc_tupleL | exact rc_tupleT | exact rc_list rfl | exact rc_max2 | exact rc_min2)
local macro_rules | `(tactic| trivial) => `(tactic| first
  | exact ep_int | exact ep_str | exact ep_bl | exact ep_non
  | exact ep_var rfl
  | (apply ep_op; trivial; trivial; get_elem_tactic_trivial)
  | (apply ep_cb; trivial; decreasing_trivial)
  | (apply ep_andF; trivial; rfl)
  | (apply ep_andV; trivial; intro _; trivial)
  | (apply ep_orT; trivial; rfl)
  | (apply ep_orV; trivial; intro _; trivial)
  | (apply ep_notV; trivial)
  | (apply ep_isN; trivial) | (apply ep_notN; trivial)
  | (apply ep_un; trivial; exact ru_i)
  | (apply ep_tup; trivial; exact Nat.le_of_ble_eq_true rfl) | (apply ep_lst; trivial; exact Nat.le_of_ble_eq_true rfl)
  | (apply ep_chain; trivial; trivial; get_elem_tactic_trivial; intro _; trivial; intro _; get_elem_tactic_trivial)
  | exact eps_nil | (apply eps_cons; trivial; trivial) | (apply eps_star; trivial; rfl; trivial)
  | (apply ef_ep; trivial)
  | (apply eb_B; trivial) | (apply eb_test; trivial)
  | (apply eb_andF; trivial; rfl)
  | (apply eb_and; trivial; intro _; trivial)
  | (apply eb_orT; trivial; rfl)
  | (apply eb_or; trivial; intro _; trivial)
  | (apply eb_not; trivial)
  | (apply ep_ifT; trivial; rfl; trivial) | (apply ep_ifF; trivial; rfl; trivial)
  | (apply ep_ifI; trivial; intro _; trivial; intro _; trivial) | (apply ep_ifL; trivial; intro _; trivial; intro _; trivial)
  | (apply ep_isi_int; trivial; first | rfl | assumption) | (apply ep_isi_bool; trivial; first | rfl | assumption) | (apply ep_isi_tuple; trivial; first | rfl | assumption) | (apply ep_isi_str; trivial; first | rfl | assumption)
  | (apply ep_isi_list; trivial; first | rfl | assumption) | (apply ep_isi_lt; trivial; first | rfl | assumption))
local macro_rules | `(tactic| trivial) => `(tactic| (apply ca_is_integer; trivial; first | rfl | assumption))
local macro_rules | `(tactic| trivial) => `(tactic| (apply ca_is_count; trivial))
local macro_rules | `(tactic| trivial) => `(tactic| (apply ca_is_between; trivial; first | rfl | assumption))
local macro_rules | `(tactic| trivial) => `(tactic| (apply ca_is_color; trivial; first | rfl | assumption))
local macro_rules | `(tactic| trivial) => `(tactic| (apply ca_other_color; trivial))
local macro_rules | `(tactic| trivial) => `(tactic| (apply ca_counts_of; trivial))
local macro_rules | `(tactic| trivial) => `(tactic| (apply ca_outside_in; trivial; first | assumption | exact .inl rfl | exact .inr rfl))
local macro_rules | `(tactic| trivial) => `(tactic| (apply ca_eye_in; trivial; first | assumption | exact .inl rfl | exact .inr rfl))
local macro_rules | `(tactic| trivial) => `(tactic| (apply ca_liberties_in; trivial; first | assumption | exact .inl rfl | exact .inr rfl))
theorem notF (kf : Kf K) : PySem.W.notFirst K (He.ga K "Race") (.ref (He.ga K "Race")) = true := by
  unfold PySem.W.notFirst
  simp
theorem eqO (kf : Kf K) {n : C5} {o : Ot} {te tf : TE} (h1 : Z.EP K te Γ M (rP K n)) (h2 : Z.EP K tf Γ M (o.v K)) : Z.EP K (tOp (fun x y H Q => (rEqA K) x y H Q ∨ rEqO K (He.ga K "Race") (SRace__eq__ K) x y H Q) te tf) Γ M (.bl (o.eq n)) := by
  refine ep_op h1 h2 (rv_r (rv_eqO ?_ ?_ (n, o) rfl True.intro fun _ h => h))
  · intro D e
    cases o <;> cases e
    exact kf.ci
  · cases o with
    | f m => exact notF kf
    | i m => exact kf.nf1
    | t m => exact kf.nf3
theorem neO (kf : Kf K) {n m : C5} {te tf : TE} (h1 : Z.EP K te Γ M (rP K n)) (h2 : Z.EP K tf Γ M (rP K m)) : Z.EP K (tOp (fun x y H Q => (rNeA K) x y H Q ∨ rNeO K (He.ga K "Race") (SRace__eq__ K) x y H Q) te tf) Γ M (.bl (!pEq (nP n) (nP m))) := by
  refine ep_op h1 h2 (rv_r (rv_neO ?_ (notF kf) (n, Ot.f m) rfl True.intro fun _ h => h))
  intro D e
  cases e
  exact kf.ci
theorem eqT {n m : C5} {te tf : TE} {C : Addr} {sp : Sp} (h1 : Z.EP K te Γ M (nP n)) (h2 : Z.EP K tf Γ M (nP m)) : Z.EP K (tOp (fun x y H Q => (rEqA K) x y H Q ∨ rEqO K C sp x y H Q) te tf) Γ M (.bl (pEq (nP n) (nP m))) := ep_op h1 h2 (rv_l (rv_eq_d (n := 8) rfl rfl (by decide)))
abbrev S_law_equal_right (K : PySem.W.Frag) : Sp := BF K (fun x : C5 × Bool => [nP x.1, rP K x.1, .bl x.2]) (fun x => wfN x.1) (fun _ => 5) (fun x r => r = .bl true)
theorem pl__law_equal_right (kf : Kf K) (n : C5) (r : Bool) (N : Nat) (c : MC) (wn : wfN n) (hb : Bx N c) (hn : N + 5 ≤ 1000000000) :
    SV K 1 (t__law_equal_right K (S_law_is K 3) (S_law_race K) (SRace__eq__ K) (S_law_pick K)) (startE 7 [.c 0, .v (nP n), .v (rP K n), .v (.bl r)]) [c]
    { nx := fun _ M => P.non = .bl true ∧ ∃ c' M', M = c' :: M' ∧ Bx (N + 5) c', rt := fun M d => ∃ p, Fz 1 M d p ∧ p = .bl true ∧ ∃ c' M', M = c' :: M' ∧ Bx (N + 5) c' } := by
  unfold t__law_equal_right
  apply sv_seq; apply sv_ifF
  · apply eb_not (b := true); apply eb_B
    refine ca_law_is (n := 3) (p := .lst [.bl (pEq (nP n) (nP n)), .bl (!pEq (nP n) (nP n))]) (q := .lst [.bl true, .bl false]) (eps_cons (ep_lst (eps_cons (eqO kf (n := n) (o := .f n) (ep_var rfl) (ca__law_race (eps_cons (ep_var rfl) (eps_cons (ep_notV (ep_var rfl)) eps_nil)) wn)) (eps_cons (neO kf (ep_var rfl) (ca__law_race (eps_cons (ep_var rfl) (eps_cons (ep_var rfl) eps_nil)) wn)) eps_nil)) (Nat.le_of_ble_eq_true rfl)) (eps_cons (by trivial) eps_nil)) ?_ ?_
    · rw [pEq_self]; rfl
    · simp [okq, okqs]
  · rfl
  apply sv_next
  apply sv_seq; apply sv_for; apply ei_range1; apply ea_ep; (apply eps_cons; trivial; exact eps_nil)
  refine ⟨5, rfl, by decide, by decide, ?_⟩
  refine ⟨fun i Γ M => ∃ c' x4 x5, M = [c'] ∧ Bx (N + i) c' ∧ Γ = [some (.c 0), some (.v (nP n)), some (.v (rP K n)), some (.v (.bl r)), x4, x5, none], ⟨c, _, _, rfl, hb, rfl⟩, ?_, ?_⟩
  · rintro i p Γ1 M1 hp ⟨c1, x4, x5, rfl, hb1, rfl⟩
    obtain ⟨hi, rfl⟩ := rangeP_at hp
    have hi : i < 5 := hi
    apply gv_name
    have it : ∃ y : Int, atI (iP5 n) (0 + (i : Nat)) = some (.int y) ∧ ∀ b, P.tup (cutP (iP5 n) none (some (0 + (i : Nat))) ++ [.int (y + b)] ++ cutP (iP5 n) (some (0 + (i : Nat) + 1)) none) = nP (at5 n i b) := by
      have h : i = 0 ∨ i = 1 ∨ i = 2 ∨ i = 3 ∨ i = 4 := by omega
      rcases h with rfl | rfl | rfl | rfl | rfl
      · exact ⟨n.a, rfl, fun b => by simp [at5]; rfl⟩
      · exact ⟨n.b, rfl, fun b => by simp [at5]; rfl⟩
      · exact ⟨n.s, rfl, fun b => by simp [at5]; rfl⟩
      · exact ⟨n.x, rfl, fun b => by simp [at5]; rfl⟩
      · exact ⟨n.y, rfl, fun b => by simp [at5]; rfl⟩
    obtain ⟨y, hy, hz⟩ := it
    have l1 : (cutP (iP5 n) none (some (0 + (i : Nat)))).length ≤ 5 := by unfold cutP; rw [List.length_take, List.length_drop]; show min _ (5 - _) ≤ 5; omega
    have l2 : (cutP (iP5 n) (some (0 + (i : Nat) + 1)) none).length ≤ 5 := by unfold cutP; rw [List.length_take, List.length_drop]; show min _ (5 - _) ≤ 5; omega
    apply sv_seq; apply sv_asg; apply ev_op; apply ev_op; apply ev_ep; exact ep_sl (ep_var rfl) eo_none (eo_some (ep_var rfl)) slv_t
    refine ⟨_, rfl, ?_⟩
    apply ev_tup; apply ea_cons; apply ev_op; apply ev_ep; exact ep_op (ep_var rfl) (ep_var rfl) (rv_ixT hy)
    refine ⟨_, rfl, ?_⟩
    refine ev_bx rfl (eps_cons (ep_lst (eps_cons ep_int (eps_cons ep_int (eps_cons (ep_op ep_int ep_int (rv_ic ⟨by decide, by decide, by decide⟩)) eps_nil))) (Nat.le_of_ble_eq_true rfl)) eps_nil) rfl hb1 (false, ([.int 1, .int 1, .int (10 ^ (18 : Int).toNat)] : List P)) rfl ⟨by decide, by decide⟩ (by show N + i + 1 ≤ 1000000000; omega) ?_
    intro p c2 hp hb2
    have hp2 : ∃ b : Int, 1 ≤ b ∧ p = .int b := by
      have : p ∈ ([.int 1, .int 1, .int (10 ^ (18 : Int).toNat)] : List P) := hp
      simp only [List.mem_cons, List.not_mem_nil, or_false] at this
      rcases this with rfl | rfl | rfl <;> exact ⟨_, by decide, rfl⟩
    obtain ⟨b, b1, rfl⟩ := hp2
    have hb2 : Bx (N + (i + 1)) c2 := hb2
    refine ⟨_, rfl, _, rv_plus_i, ?_⟩
    apply ea_nil
    refine ⟨[.int (y + b)], rfl, Nat.le_of_ble_eq_true rfl, _, rfl, _, rv_plus_t (Nat.le_trans (Nat.add_le_add_right l1 _) (Nat.le_of_ble_eq_true rfl)), ?_⟩
    refine ⟨_, rfl, ?_⟩
    apply ev_ep; exact ep_sl (ep_var rfl) (eo_some (ep_op (ep_var rfl) ep_int rv_plus_i)) eo_none slv_t
    refine ⟨_, rfl, _, rv_plus_t (by rw [List.length_append]; exact Nat.le_trans (Nat.add_le_add (Nat.add_le_add_right l1 _) l2) (Nat.le_of_ble_eq_true rfl)), ?_⟩
    rw [hz b]
    have wm := at5_wf (i := i) wn b1
    have ne := at5_ne (n := n) hi b1
    generalize hmm : at5 n i b = m at wm ne
    apply sv_ifF
    · apply eb_not (b := true); apply eb_B
      refine ca_law_is (n := 3) (p := .lst [.bl (pEq (nP n) (nP m)), .bl (pEq (nP m) (nP n))]) (q := .lst [.bl false, .bl false]) (eps_cons (ep_lst (eps_cons (eqO kf (n := n) (o := .f m) (ep_var rfl) (ca__law_race (eps_cons (ep_var rfl) (eps_cons (ep_var rfl) eps_nil)) wm)) (eps_cons (eqO kf (n := m) (o := .f n) (ca__law_race (eps_cons (ep_var rfl) (eps_cons (ep_notV (ep_var rfl)) eps_nil)) wm) (ep_var rfl)) eps_nil)) (Nat.le_of_ble_eq_true rfl)) (eps_cons (by trivial) eps_nil)) ?_ ?_
      · rw [pEq_sym (n := m), ne]
      · simp [okq, okqs]
    · rfl
    · apply sv_next; exact ni_refl ⟨c2, _, _, rfl, hb2, rfl⟩
  · rintro Γ1 M1 ⟨c1, x4, x5, rfl, hb1, rfl⟩
    have hb1 : Bx (N + 5) c1 := hb1
    apply sv_seq; apply sv_set (p := nP ⟨n.b, n.a, n.s, n.y, n.x⟩)
    · trivial
    have wt : wfN ⟨n.b, n.a, n.s, n.y, n.x⟩ := ⟨wn.b, wn.a, wn.s, wn.y, wn.x, wn.l2, wn.l1⟩
    generalize (⟨n.b, n.a, n.s, n.y, n.x⟩ : C5) = m at wt
    apply sv_retP
    · refine ca_law_is (n := 3) (p := .lst [.bl (pEq (nP n) (nP m)), .bl false, .bl false, .bl false]) (q := .lst [.bl (pEq (nP m) (nP n)), .bl false, .bl false, .bl false]) (eps_cons (ep_lst (eps_cons (eqO kf (n := n) (o := .f m) (ep_var rfl) (ca__law_race (eps_cons (ep_var rfl) (eps_cons (ep_var rfl) eps_nil)) wt)) (eps_cons (eqO kf (n := n) (o := .t (iP5 n)) (ep_var rfl) (ep_var rfl)) (eps_cons (eqO kf (n := n) (o := .i n.a) (ep_var rfl) (by trivial)) (eps_cons (eqO kf (n := n) (o := .i 5) (ep_var rfl) ep_int) eps_nil)))) (Nat.le_of_ble_eq_true rfl)) (eps_cons (ep_lst (eps_cons (eqT (ep_var rfl) (ep_var rfl)) (eps_cons ep_bl (eps_cons ep_bl (eps_cons ep_bl eps_nil)))) (Nat.le_of_ble_eq_true rfl)) eps_nil)) ?_ ?_
      · rw [pEq_sym]
      · simp [okq, okqs]
    · exact ⟨_, .v _, rfl, c1, [], rfl, hb1⟩
end
end R35
set_option maxRecDepth 100000
set_option maxHeartbeats 4000000
namespace R35
open PySem PySem.Spec PyProof.Rows L2 Z
/-- a comprehension whose items are drawn, by place -/
theorem en_boxI {K : PySem.W.Frag} {wi : TI} {g : TG} {te : TE} {vs : List Nat} {Γ : Z.Env} {c : MC} {n cost : Nat} {items : List P} {Rk : Nat → P → Prop} (hT : Tgt vs g) (hi : EIp K wi Γ [c] items) (hl : items.length ≤ 99999) (hb : Bx n c)
    (h : ∀ (i : Nat) (p : P) (c' : MC) (n' : Nat), items[i]? = some p → Bx n' c' → n' + cost ≤ n + items.length * cost → GV K g p (wipeE Γ vs) [c'] fun Γ2 => EV K te Γ2 [c'] fun M d => ∃ q c'', d = .v q ∧ M = [c''] ∧ Bx (n' + cost) c'' ∧ Rk i q) :
    EN K (tLc wi g tYes te vs) Γ [c] fun M ds => ∃ (qs : List P) (c' : MC), ds = qs.map .v ∧ M = [c'] ∧ Bx (n + items.length * cost) c' ∧ qs.length = items.length ∧ ∀ i q, qs[i]? = some q → Rk i q := by
  refine en_lc hT (fun X A σ H s R q => hi X A σ H s R fun A' M' its J H' t s' wk ⟨e1, e2⟩ => q A' M' its J H' t s' wk ?_)
  subst e1 e2
  refine ⟨fun i M1 acc => ∃ c', M1 = [c'] ∧ Bx (n + i * cost) c' ∧ acc.length = i ∧ ∀ j q, acc[j]? = some q → Rk j q, ⟨c, rfl, by rw [Nat.zero_mul]; exact hb, rfl, fun j q h => by simp at h⟩, ?_, ?_⟩
  · rintro i p M1 acc hp ⟨c', rfl, hb', hl', hR⟩
    have hi2 : i < its.length := (List.getElem?_eq_some_iff.mp hp).1
    refine ⟨by omega, (h i p c' (n + i * cost) hp hb' ?_).imp fun Γ2 hv => ?_⟩
    · have h3 : (i + 1) * cost ≤ its.length * cost := Nat.mul_le_mul_right _ hi2
      rw [Nat.add_mul, Nat.one_mul] at h3
      omega
    · refine et_eb eb_yes ?_
      rw [if_pos rfl]
      refine hv.imp fun M d ⟨q, c'', e1, e2, e3, e4⟩ => ⟨q, e1, c'', e2, ?_, ?_, ?_⟩
      · rw [Nat.add_mul, Nat.one_mul, ← Nat.add_assoc]; exact e3
      · rw [List.length_append, hl']; rfl
      · intro j q' hq'
        by_cases hj : j < acc.length
        · rw [List.getElem?_append_left hj] at hq'
          exact hR j q' hq'
        · have hj2 : j = acc.length := by
            have := (List.getElem?_eq_some_iff.mp hq').1
            rw [List.length_append, List.length_singleton] at this
            omega
          subst hj2
          rw [List.getElem?_append_right (Nat.le_refl _), Nat.sub_self] at hq'
          cases hq'
          rw [hl']
          exact e4
  · rintro M1 acc ⟨c', rfl, hb', hl', hR⟩
    exact ⟨acc, c', rfl, rfl, hb', hl', hR⟩
section
variable {K : PySem.W.Frag} {Γ : Z.Env} {M : Mem} {E : XK} {t : TA} {a b c d e i j h k f : Int} {r : Bool} {p q : P} {ps qs : List P} {te : TE} {n : C5} {w : Str} {Φ : Mem → D → Prop}
local macro_rules | `(tactic| get_elem_tactic_trivial) => `(tactic| first
  | exact rv_plus_i | exact rv_ii | exact rv_ib | exact rv_eq_ii | exact rv_ne_ii | exact rv_eq_ss | exact rv_ne_ss | exact rv_eq_bb | exact rv_ne_bb | exact rv_ixT rfl | exact rv_ixL rfl
  | exact rv_plus_t (Nat.le_of_ble_eq_true rfl) | exact rv_plus_l (Nat.le_of_ble_eq_true rfl) | exact rv_plus_s (Nat.le_of_ble_eq_true rfl) | exact rv_isB | exact rv_inL rfl rfl | exact rv_inT rfl rfl | exact rv_ic (by decide))
local macro_rules | `(tactic| decreasing_trivial) => `(tactic| first
  | exact rc_len rfl | exact rc_int | exact rc_intB | exact rc_abs | exact rc_tupleL | exact rc_tupleT | exact rc_list rfl | exact rc_max2 | exact rc_min2)
local macro_rules | `(tactic| trivial) => `(tactic| first
  | exact ep_int | exact ep_str | exact ep_bl | exact ep_non
  | exact ep_var rfl
  | (apply ep_op; trivial; trivial; get_elem_tactic_trivial)
  | (apply ep_cb; trivial; decreasing_trivial)
  | (apply ep_andF; trivial; rfl)
  | (apply ep_andV; trivial; intro _; trivial)
  | (apply ep_orT; trivial; rfl)
  | (apply ep_orV; trivial; intro _; trivial)
  | (apply ep_notV; trivial)
  | (apply ep_isN; trivial) | (apply ep_notN; trivial)
  | (apply ep_un; trivial; exact ru_i)
  | (apply ep_tup; trivial; exact Nat.le_of_ble_eq_true rfl) | (apply ep_lst; trivial; exact Nat.le_of_ble_eq_true rfl)
  | (apply ep_chain; trivial; trivial; get_elem_tactic_trivial; intro _; trivial; intro _; get_elem_tactic_trivial)
  | exact eps_nil | (apply eps_cons; trivial; trivial) | (apply eps_star; trivial; rfl; trivial)
  | (apply ef_ep; trivial)
  | (apply eb_B; trivial) | (apply eb_test; trivial)
  | (apply eb_andF; trivial; rfl)
  | (apply eb_and; trivial; intro _; trivial)
  | (apply eb_orT; trivial; rfl)
  | (apply eb_or; trivial; intro _; trivial)
  | (apply eb_not; trivial)
  | (apply ep_ifT; trivial; rfl; trivial) | (apply ep_ifF; trivial; rfl; trivial)
  | (apply ep_ifI; trivial; intro _; trivial; intro _; trivial) | (apply ep_ifL; trivial; intro _; trivial; intro _; trivial)
  | (apply ep_isi_int; trivial; first | rfl | assumption) | (apply ep_isi_bool; trivial; first | rfl | assumption) | (apply ep_isi_tuple; trivial; first | rfl | assumption) | (apply ep_isi_str; trivial; first | rfl | assumption)
  | (apply ep_isi_list; trivial; first | rfl | assumption) | (apply ep_isi_lt; trivial; first | rfl | assumption))
local macro_rules | `(tactic| trivial) => `(tactic| (apply ca_is_integer; trivial; first | rfl | assumption))
local macro_rules | `(tactic| trivial) => `(tactic| (apply ca_is_count; trivial))
local macro_rules | `(tactic| trivial) => `(tactic| (apply ca_is_between; trivial; first | rfl | assumption))
local macro_rules | `(tactic| trivial) => `(tactic| (apply ca_is_color; trivial; first | rfl | assumption))
local macro_rules | `(tactic| trivial) => `(tactic| (apply ca_other_color; trivial))
local macro_rules | `(tactic| trivial) => `(tactic| (apply ca_counts_of; trivial))
local macro_rules | `(tactic| trivial) => `(tactic| (apply ca_outside_in; trivial; first | assumption | exact .inl rfl | exact .inr rfl))
local macro_rules | `(tactic| trivial) => `(tactic| (apply ca_eye_in; trivial; first | assumption | exact .inl rfl | exact .inr rfl))
local macro_rules | `(tactic| trivial) => `(tactic| (apply ca_liberties_in; trivial; first | assumption | exact .inl rfl | exact .inr rfl))
abbrev Slaw (K : PySem.W.Frag) : Sp := PF K (fun ns : List Int => [.scr (ns.map .int)]) (fun ns => ns.length ≤ 63) (fun _ r => r = .bl true)
theorem pl_law (kf : Kf K) (ns : List Int) (hl : ns.length ≤ 63) : SV K 0 (t_law K (S_law_box K) (S_law_cell K) (S_law_take K) (S_law_near_race K) (S_law_far K) (S_law_race K) (S_law_is K 3) (S_law_five K) (S_law_counts_right K) (S_law_best_right K) (S_law_missing_right K) (S_law_equal_right K)) (startE 8 [.v (.scr (ns.map .int))]) [] (DR (· = .bl true)) := by
  unfold t_law
  apply sv_seq; apply sv_for; apply ei_range1; apply ea_ep
  · apply eps_cons; apply ep_cb; apply eps_cons; trivial; apply eps_cons; apply ep_cb; apply eps_cons; trivial; apply eps_cons; (apply ep_cb; apply eps_cons; trivial; exact eps_nil; exact rc_len (n := (ns.map P.int).length) rfl); exact eps_nil; exact rc_min2; exact eps_nil; exact rc_max2; exact eps_nil
  rw [List.length_map]
  have hL : (ns.length : Int) ≤ 63 := by omega
  refine ⟨_, rfl, ?_, ?_, ?_⟩
  · split <;> omega
  · split
    · split <;> omega
    · omega
  refine ⟨fun i Γ M => M = [] ∧ ∃ x1, Γ = [some (.v (.scr (ns.map .int))), x1, none, none, none, none, none, none], ⟨rfl, none, rfl⟩, ?_, ?_⟩
  · rintro i p Γ1 M1 hp ⟨rfl, x1, rfl⟩
    obtain ⟨hi, rfl⟩ := rangeP_at hp
    apply gv_name
    apply sv_seq; apply sv_asg; apply ev_callC; apply ea_cons
    refine ca_law_cell (ns := ns) (k := 0 + (i : Nat)) (eps_cons (ep_var rfl) (eps_cons (ep_var rfl) eps_nil)) (by omega) fun g => ?_
    apply ea_nil
    refine ⟨g, rfl, True.intro, ?_⟩
    rintro cs d ⟨c0, rfl, hb0, rfl⟩
    have sh0 : shC 0 c0 = c0 := by
      obtain ⟨a0, g0, m0, d0, rfl, _⟩ := hb0
      rfl
    show SV K 0 _ _ ([] ++ [shC 0 c0]) _
    rw [sh0]
    apply sv_seq; apply sv_asg; apply ev_op
    refine ev_bx rfl (eps_cons ep_int eps_nil) rfl hb0 (2 : Int) rfl ⟨by decide, by decide⟩ (by decide) ?_
    rintro _ c1 ⟨x, x0, x1', rfl⟩ hb1
    have hb1 : Bx 1 c1 := hb1
    refine ⟨_, rfl, ?_⟩
    apply ev_ep; trivial; refine ⟨_, rfl, _, rv_eq_ii, ?_⟩
    generalize decide (x = 0) = nm0
    apply sv_for; apply ei_range1; apply ea_ep; (apply eps_cons; trivial; exact eps_nil)
    refine ⟨6, rfl, by decide, by decide, ?_⟩
    refine ⟨fun j Γ M => ∃ c nm x4 x5 x6, M = [c] ∧ Bx (1 + 300 * j) c ∧ Γ = [some (.v (.scr (ns.map .int))), some (.v (.int (0 + (i : Nat)))), some (.c 0), some (.v (.bl nm)), x4, x5, x6, none], ⟨c1, nm0, _, _, _, rfl, hb1, rfl⟩, ?_, ?_⟩
    · rintro j p Γ2 M2 hp2 ⟨c2, nm, x4, x5, x6, rfl, hb2, rfl⟩
      obtain ⟨hj, rfl⟩ := rangeP_at hp2
      have hj : j < 6 := hj
      apply gv_name
      apply sv_seq; apply sv_asg
      refine ev_bx rfl (eps_cons (ep_op (ep_var rfl) ep_int rv_ib) eps_nil) rfl hb2 _ rfl True.intro (by show 1 + 300 * j + 200 ≤ 1000000000; omega) ?_
      rintro _ c3 ⟨n, wn, rfl⟩ hb3
      have hb3 : Bx (1 + 300 * j + 200) c3 := hb3
      -- the race, in either way
      have rest : ∀ (n : C5) (c : MC), wfN n → Bx (1 + 300 * j + 225) c → SV K 1 (tSeq (tAsg (tCall (S_law_race K) [] E0 (tCons (tVar 5) (tCons (tVar 3) tNil))) (gName 6))
          (tSeq (tIfS (tOr (tNot (tB (tCall (S_law_is K 3) [] E0 (tCons (tCall (S_law_five K) [] E0 (tCons (tVar 6) tNil)) (tCons (tCB (rListO K) (tCons (tVar 5) tNil)) tNil))))) (tOr (tNot (tB (tCall (S_law_counts_right K) [] E0 (tCons (tVar 5) (tCons (tVar 6) (tCons (tVar 3) tNil)))))) (tNot (tB (tCall (S_law_best_right K) [] E0 (tCons (tVar 5) (tCons (tVar 6) (tCons (tNotV (tVar 3)) tNil)))))))) (tRet (tC (.bl false))) tNext)
          (tSeq (tIfS (tOr (tNot (tB (tCall (S_law_missing_right K) [] E0 (tCons (tVar 5) (tCons (tVar 6) (tCons (tVar 3) tNil)))))) (tNot (tB (tCall (S_law_equal_right K) [] E0 (tCons (tVar 2) (tCons (tVar 5) (tCons (tVar 6) (tCons (tNotV (tVar 3)) tNil)))))))) (tRet (tC (.bl false))) tNext)
          (tAsg (tNotV (tVar 3)) (gName 3)))))
          [some (.v (.scr (ns.map .int))), some (.v (.int (0 + (i : Nat)))), some (.c 0), some (.v (.bl nm)), some (.v (.int (0 + (j : Nat)))), some (.v (nP n)), x6, none] [c]
          { nx := NI K 1 fun Γ M => ∃ c nm x4 x5 x6, M = [c] ∧ Bx (1 + 300 * (j + 1)) c ∧ Γ = [some (.v (.scr (ns.map .int))), some (.v (.int (0 + (i : Nat)))), some (.c 0), some (.v (.bl nm)), x4, x5, x6, none], rt := fun _ _ => False } := by
        intro n c4 wn hb4
        apply sv_seq; apply sv_set; (apply ca__law_race; trivial; exact wn)
        apply sv_seq; apply sv_ifF
        · apply eb_or (b := false) (c := false)
          · apply eb_not (b := true); apply eb_B
            refine ca_law_is (n := 3) (p := .lst (iP5 n)) (q := .lst (iP5 n)) (eps_cons (ca__law_five (eps_cons (ep_var rfl) eps_nil)) (eps_cons (ep_cb (eps_cons (ep_var rfl) eps_nil) (rc_list rfl)) eps_nil)) rfl ?_
            simp [okq, okqs]
          · intro _; apply eb_or (b := false) (c := false)
            · apply eb_not (b := true); apply eb_B
              exact ep_call (eps_cons (ep_var rfl) (eps_cons (ep_var rfl) (eps_cons (ep_var rfl) eps_nil))) (n, nm) rfl wn fun _ h => h
            · intro _; apply eb_not (b := true); apply eb_B
              exact ep_call (eps_cons (ep_var rfl) (eps_cons (ep_var rfl) (eps_cons (ep_notV (ep_var rfl)) eps_nil))) (n, !nm) rfl wn fun _ h => h
        · rfl
        apply sv_next
        apply sv_seq; apply sv_if; apply et_or; apply et_not; apply et_B
        apply ev_ep; exact ep_call (eps_cons (ep_var rfl) (eps_cons (ep_var rfl) (eps_cons (ep_var rfl) eps_nil))) (n, nm) rfl wn fun _ h => h
        refine ⟨true, rfl, ?_⟩
        rw [if_neg (by decide)]
        apply et_not; apply et_B
        refine ev_bx rfl (eps_cons (ep_var rfl) (eps_cons (ep_var rfl) (eps_cons (ep_notV (ep_var rfl)) eps_nil))) rfl hb4 (n, !nm) rfl wn (by show 1 + 300 * j + 225 + 5 ≤ 1000000000; omega) ?_
        rintro _ c5 rfl hb5
        have hb5 : Bx (1 + 300 * j + 230) c5 := hb5
        refine ⟨true, rfl, ?_⟩
        rw [if_neg (by decide)]
        apply sv_next
        apply sv_set; trivial
        exact ni_refl ⟨c5, _, _, _, _, rfl, Bx.mono hb5 (by omega), rfl⟩
      apply sv_seq; apply sv_ifB; trivial
      · intro _
        apply sv_asg; apply ev_cb; apply ea_cons; apply ev_new
        refine (en_boxI (cost := 5) (Rk := fun i q => ∃ z : Int, q = .int z ∧ 0 ≤ z ∧ (i < 2 → 0 < z)) (tgt_name (by decide)) (items := rangeP 0 5) (eip_range1 (eps_cons ep_int eps_nil) (by decide) (by decide)) (by decide) hb3 ?_).imp ?_
        · intro l p c' n' hp hb' hn'
          have hn' : n' + 5 ≤ 1 + 300 * j + 200 + 5 * 5 := hn'
          obtain ⟨hl, rfl⟩ := rangeP_at hp
          apply gv_name
          apply ev_op; refine ev_bx rfl eps_nil rfl hb' () rfl True.intro (by show n' + 5 ≤ 1000000000; omega) ?_
          rintro _ c'' ⟨z, z0, _, rfl⟩ hb''
          refine ⟨_, rfl, ?_⟩
          apply ev_ep; exact ep_cb (eps_cons (ep_op (ep_var rfl) ep_int rv_ib) eps_nil) rc_intB
          refine ⟨_, rfl, _, rv_plus_i, _, c'', rfl, rfl, hb'', _, rfl, ?_, ?_⟩
          · split <;> omega
          · intro h2; rw [if_pos (decide_eq_true (by omega))]; omega
        rintro M' ds ⟨qs, c4, rfl, rfl, hb4, hl, hR⟩
        have hb4 : Bx (1 + 300 * j + 225) c4 := hb4
        have hq : ∃ n : C5, wfN n ∧ qs = iP5 n := by
          match qs, hl with
          | [p1, p2, p3, p4, p5], _ =>
            obtain ⟨a, rfl, a0, a1⟩ := hR 0 _ rfl
            obtain ⟨b, rfl, b0, b1⟩ := hR 1 _ rfl
            obtain ⟨s, rfl, s0, _⟩ := hR 2 _ rfl
            obtain ⟨x, rfl, x0, _⟩ := hR 3 _ rfl
            obtain ⟨y, rfl, y0, _⟩ := hR 4 _ rfl
            have a1 := a1 (by decide)
            have b1 := b1 (by decide)
            exact ⟨⟨a, b, s, x, y⟩, ⟨a0, b0, s0, x0, y0, by show 0 < a + s + x; omega, by show 0 < b + s + y; omega⟩, rfl⟩
        obtain ⟨n, wn, rfl⟩ := hq
        refine ⟨_, rfl, ?_⟩
        apply ea_nil
        refine ⟨[.lst (iP5 n)], rfl, _, rc_tupleL, ?_⟩
        exact (rest n c4 wn hb4).imp (fun _ _ h => h) (fun _ _ h => h.elim) (fun _ _ h => h.elim) (fun _ _ h => h.elim)
      · intro _
        apply sv_next
        exact (rest n c3 wn (Bx.mono hb3 (by omega))).imp (fun _ _ h => h) (fun _ _ h => h.elim) (fun _ _ h => h.elim) (fun _ _ h => h.elim)
    · rintro Γ2 M2 ⟨c2, nm, x4, x5, x6, rfl, hb2, rfl⟩
      refine ⟨[some (.v (.scr (ns.map .int))), some (.v (.int (0 + (i : Nat)))), none, none, none, none, none, none], [], nrm_drop (M0 := []) (C := [c2]) (Nat.le_refl _) rfl rfl fun i d e => ?_, rfl, _, rfl⟩
      match i, e with
      | 0, e => cases e; exact ⟨rfl, rfl⟩
      | 1, e => cases e; exact ⟨rfl, rfl⟩
      | 2, e => cases e
      | 3, e => cases e
      | 4, e => cases e
      | 5, e => cases e
      | 6, e => cases e
      | 7, e => cases e
      | i + 8, e => cases e
  · rintro Γ1 M1 ⟨rfl, x1, rfl⟩
    apply sv_retP; trivial; exact fz_is rfl
end
end R35
set_option maxRecDepth 100000
set_option maxHeartbeats 0
namespace R35
open PySem PySem.Spec PyProof.Rows L2 Z
def d_is_integer : He.DefD := ⟨("is_integer", none), "is_integer", "is_integer", defArgs s_is_integer, defBody s_is_integer, defScope s_is_integer, [], []⟩
def d_is_count : He.DefD := ⟨("is_count", none), "is_count", "is_count", defArgs s_is_count, defBody s_is_count, defScope s_is_count, [], []⟩
def d_is_between : He.DefD := ⟨("is_between", none), "is_between", "is_between", defArgs s_is_between, defBody s_is_between, defScope s_is_between, [], []⟩
def d_is_color : He.DefD := ⟨("is_color", none), "is_color", "is_color", defArgs s_is_color, defBody s_is_color, defScope s_is_color, [], []⟩
def d_other_color : He.DefD := ⟨("other_color", none), "other_color", "other_color", defArgs s_other_color, defBody s_other_color, defScope s_other_color, [], []⟩
def d_check_color : He.DefD := ⟨("check_color", none), "check_color", "check_color", defArgs s_check_color, defBody s_check_color, defScope s_check_color, [], []⟩
def d_Race__init__ : He.DefD := ⟨("Race", some "__init__"), "__init__", "Race.__init__", defArgs s_Race__init__, defBody s_Race__init__, defScope s_Race__init__, [], []⟩
def d_counts_of : He.DefD := ⟨("counts_of", none), "counts_of", "counts_of", defArgs s_counts_of, defBody s_counts_of, defScope s_counts_of, [], []⟩
def d_Race__eq__ : He.DefD := ⟨("Race", some "__eq__"), "__eq__", "Race.__eq__", defArgs s_Race__eq__, defBody s_Race__eq__, defScope s_Race__eq__, [], []⟩
def d_race_with : He.DefD := ⟨("race_with", none), "race_with", "race_with", defArgs s_race_with, defBody s_race_with, defScope s_race_with, [], []⟩
def d_outside_in : He.DefD := ⟨("outside_in", none), "outside_in", "outside_in", defArgs s_outside_in, defBody s_outside_in, defScope s_outside_in, [], []⟩
def d_eye_in : He.DefD := ⟨("eye_in", none), "eye_in", "eye_in", defArgs s_eye_in, defBody s_eye_in, defScope s_eye_in, [], []⟩
def d_liberties_in : He.DefD := ⟨("liberties_in", none), "liberties_in", "liberties_in", defArgs s_liberties_in, defBody s_liberties_in, defScope s_liberties_in, [], []⟩
def d_race_liberties : He.DefD := ⟨("race_liberties", none), "race_liberties", "race_liberties", defArgs s_race_liberties, defBody s_race_liberties, defScope s_race_liberties, [], []⟩
def d_moves_in : He.DefD := ⟨("moves_in", none), "moves_in", "moves_in", defArgs s_moves_in, defBody s_moves_in, defScope s_moves_in, [], []⟩
def d_race_moves : He.DefD := ⟨("race_moves", none), "race_moves", "race_moves", defArgs s_race_moves, defBody s_race_moves, defScope s_race_moves, [], []⟩
def d_counts_behind : He.DefD := ⟨("counts_behind", none), "counts_behind", "counts_behind", defArgs s_counts_behind, defBody s_counts_behind, defScope s_counts_behind, [], []⟩
def d_race_after : He.DefD := ⟨("race_after", none), "race_after", "race_after", defArgs s_race_after, defBody s_race_after, defScope s_race_after, [], []⟩
def d_need_in : He.DefD := ⟨("need_in", none), "need_in", "need_in", defArgs s_need_in, defBody s_need_in, defScope s_need_in, [], []⟩
def d_lead_in : He.DefD := ⟨("lead_in", none), "lead_in", "lead_in", defArgs s_lead_in, defBody s_lead_in, defScope s_lead_in, [], []⟩
def d_result_in : He.DefD := ⟨("result_in", none), "result_in", "result_in", defArgs s_result_in, defBody s_result_in, defScope s_result_in, [], []⟩
def d_check_first : He.DefD := ⟨("check_first", none), "check_first", "check_first", defArgs s_check_first, defBody s_check_first, defScope s_check_first, [], []⟩
def d_race_result : He.DefD := ⟨("race_result", none), "race_result", "race_result", defArgs s_race_result, defBody s_race_result, defScope s_race_result, [], []⟩
def d_race_need : He.DefD := ⟨("race_need", none), "race_need", "race_need", defArgs s_race_need, defBody s_race_need, defScope s_race_need, [], []⟩
def d_race_lead : He.DefD := ⟨("race_lead", none), "race_lead", "race_lead", defArgs s_race_lead, defBody s_race_lead, defScope s_race_lead, [], []⟩
def d_result_behind : He.DefD := ⟨("result_behind", none), "result_behind", "result_behind", defArgs s_result_behind, defBody s_result_behind, defScope s_result_behind, [], []⟩
def d_best_in : He.DefD := ⟨("best_in", none), "best_in", "best_in", defArgs s_best_in, defBody s_best_in, defScope s_best_in, [], []⟩
def d_best_race_moves : He.DefD := ⟨("best_race_moves", none), "best_race_moves", "best_race_moves", defArgs s_best_race_moves, defBody s_best_race_moves, defScope s_best_race_moves, [], []⟩
def d_outside_to_take : He.DefD := ⟨("outside_to_take", none), "outside_to_take", "outside_to_take", defArgs s_outside_to_take, defBody s_outside_to_take, defScope s_outside_to_take, [], []⟩
def d_outside_to_stay : He.DefD := ⟨("outside_to_stay", none), "outside_to_stay", "outside_to_stay", defArgs s_outside_to_stay, defBody s_outside_to_stay, defScope s_outside_to_stay, [], []⟩
def d__law_cell : He.DefD := ⟨("_law_cell", none), "_law_cell", "_law_cell", defArgs s__law_cell, defBody s__law_cell, defScope s__law_cell, [], []⟩
def d__law_box : He.DefD := ⟨("_law_box", none), "_law_box", "_law_box", defArgs s__law_box, defBody s__law_box, defScope s__law_box, [], []⟩
def d__law_take : He.DefD := ⟨("_law_take", none), "_law_take", "_law_take", defArgs s__law_take, defBody s__law_take, defScope s__law_take, [], []⟩
def d__law_pick : He.DefD := ⟨("_law_pick", none), "_law_pick", "_law_pick", defArgs s__law_pick, defBody s__law_pick, defScope s__law_pick, [], []⟩
def d__law_whole : He.DefD := ⟨("_law_whole", none), "_law_whole", "_law_whole", defArgs s__law_whole, defBody s__law_whole, defScope s__law_whole, [], []⟩
def d__law_is : He.DefD := ⟨("_law_is", none), "_law_is", "_law_is", defArgs s__law_is, defBody s__law_is, defScope s__law_is, [], []⟩
def d__law_total : He.DefD := ⟨("_law_total", none), "_law_total", "_law_total", defArgs s__law_total, defBody s__law_total, defScope s__law_total, [], []⟩
def d__law_need : He.DefD := ⟨("_law_need", none), "_law_need", "_law_need", defArgs s__law_need, defBody s__law_need, defScope s__law_need, [], []⟩
def d__law_lead : He.DefD := ⟨("_law_lead", none), "_law_lead", "_law_lead", defArgs s__law_lead, defBody s__law_lead, defScope s__law_lead, [], []⟩
def d__law_result : He.DefD := ⟨("_law_result", none), "_law_result", "_law_result", defArgs s__law_result, defBody s__law_result, defScope s__law_result, [], []⟩
def d__law_words : He.DefD := ⟨("_law_words", none), "_law_words", "_law_words", defArgs s__law_words, defBody s__law_words, defScope s__law_words, [], []⟩
def d__law_behind : He.DefD := ⟨("_law_behind", none), "_law_behind", "_law_behind", defArgs s__law_behind, defBody s__law_behind, defScope s__law_behind, [], []⟩
def d__law_value : He.DefD := ⟨("_law_value", none), "_law_value", "_law_value", defArgs s__law_value, defBody s__law_value, defScope s__law_value, [], []⟩
def d__law_best_words : He.DefD := ⟨("_law_best_words", none), "_law_best_words", "_law_best_words", defArgs s__law_best_words, defBody s__law_best_words, defScope s__law_best_words, [], []⟩
def d__law_race : He.DefD := ⟨("_law_race", none), "_law_race", "_law_race", defArgs s__law_race, defBody s__law_race, defScope s__law_race, [], []⟩
def d__law_five : He.DefD := ⟨("_law_five", none), "_law_five", "_law_five", defArgs s__law_five, defBody s__law_five, defScope s__law_five, [], []⟩
def d__law_far : He.DefD := ⟨("_law_far", none), "_law_far", "_law_far", defArgs s__law_far, defBody s__law_far, defScope s__law_far, [], []⟩
def d__law_near_race : He.DefD := ⟨("_law_near_race", none), "_law_near_race", "_law_near_race", defArgs s__law_near_race, defBody s__law_near_race, defScope s__law_near_race, [], []⟩
def d__law_counts_right : He.DefD := ⟨("_law_counts_right", none), "_law_counts_right", "_law_counts_right", defArgs s__law_counts_right, defBody s__law_counts_right, defScope s__law_counts_right, [], []⟩
def d__law_best_right : He.DefD := ⟨("_law_best_right", none), "_law_best_right", "_law_best_right", defArgs s__law_best_right, defBody s__law_best_right, defScope s__law_best_right, [], []⟩
def d__law_missing_right : He.DefD := ⟨("_law_missing_right", none), "_law_missing_right", "_law_missing_right", defArgs s__law_missing_right, defBody s__law_missing_right, defScope s__law_missing_right, [], []⟩
def d__law_equal_right : He.DefD := ⟨("_law_equal_right", none), "_law_equal_right", "_law_equal_right", defArgs s__law_equal_right, defBody s__law_equal_right, defScope s__law_equal_right, [], []⟩
def d_law : He.DefD := ⟨("law", none), "law", "law", defArgs s_law, defBody s_law, defScope s_law, [], []⟩
def fn : List He.DefD := [d_is_integer, d_is_count, d_is_between, d_is_color, d_other_color, d_check_color, d_Race__init__, d_counts_of, d_Race__eq__, d_race_with, d_outside_in, d_eye_in, d_liberties_in, d_race_liberties, d_moves_in, d_race_moves, d_counts_behind, d_race_after, d_need_in, d_lead_in, d_result_in, d_check_first, d_race_result, d_race_need, d_race_lead, d_result_behind, d_best_in, d_best_race_moves, d_outside_to_take, d_outside_to_stay, d__law_cell, d__law_box, d__law_take, d__law_pick, d__law_whole, d__law_is, d__law_total, d__law_need, d__law_lead, d__law_result, d__law_words, d__law_behind, d__law_value, d__law_best_words, d__law_race, d__law_five, d__law_far, d__law_near_race, d__law_counts_right, d__law_best_right, d__law_missing_right, d__law_equal_right, d_law]
def fa : List He.Fa := [.free "abs", .free "bool", .free "enumerate", .free "int", .free "isinstance", .free "len", .free "list", .free "max", .free "min", .free "range", .free "str", .free "sum", .free "tuple", .int "BLACK" 1, .int "SHARED_PLACE" 2, .int "WHITE" 2, .str "EYE" "eye", .str "OUTSIDE" "outside", .str "SHARED" "shared", .glo "is_integer", .glo "is_count", .glo "is_between", .glo "is_color", .glo "other_color", .glo "check_color", .glo "counts_of", .glo "race_with", .glo "outside_in", .glo "eye_in", .glo "liberties_in", .glo "race_liberties", .glo "moves_in", .glo "race_moves", .glo "counts_behind", .glo "race_after", .glo "need_in", .glo "lead_in", .glo "result_in", .glo "check_first", .glo "race_result", .glo "race_need", .glo "race_lead", .glo "result_behind", .glo "best_in", .glo "best_race_moves", .glo "outside_to_take", .glo "outside_to_stay", .glo "_law_cell", .glo "_law_box", .glo "_law_take", .glo "_law_pick", .glo "_law_whole", .glo "_law_is", .glo "_law_total", .glo "_law_need", .glo "_law_lead", .glo "_law_result", .glo "_law_words", .glo "_law_behind", .glo "_law_value", .glo "_law_best_words", .glo "_law_race", .glo "_law_five", .glo "_law_far", .glo "_law_near_race", .glo "_law_counts_right", .glo "_law_best_right", .glo "_law_missing_right", .glo "_law_equal_right", .glo "law", .glo "Race", .cls "Race", .noat "Race" "black", .noat "Race" "white", .noat "Race" "shared", .noat "Race" "black_eye", .noat "Race" "white_eye", .mkr "Race", .meth "Race" "__eq__"]
def mor (K : PySem.W.Frag) : Bool := He.eqO (PySem.W.findIn K (.ref (He.ga K "Race")) "__ne__") (some (some (.builtin "object.__ne__"))) && (decide (PySem.W.subIn K (.ref (He.ga K "Race")) (.type "object") = some true) && (decide (PySem.W.kitOne K (.ref (He.ga K "Race")) (.ref (He.ga K "Race")) = some true) && (decide (PySem.W.kitOne K (.type "int") (.ref (He.ga K "Race")) = some false) && (decide (PySem.W.kitOne K (.type "NoneType") (.ref (He.ga K "Race")) = some false) && (decide (PySem.W.kitOne K (.type "tuple") (.ref (He.ga K "Race")) = some false) && ((PySem.W.notFirst K (He.ga K "Race") (.type "int")) && ((PySem.W.notFirst K (He.ga K "Race") (.type "tuple")) && (He.eqO (PySem.W.findIn K (.ref (He.ga K "Race")) "__class__") (some (some (.builtin "object.__class__"))) && (He.eqO (PySem.W.specialIn K (.builtin "object.__class__") "__get__") (some (some (.builtin "getset_descriptor.__get__"))) && (decide (PySem.W.takesIn K (.builtin "object.__class__") = some true) && (decide (PySem.W.mroIn K (He.ga K "Race") (.type "object") = some true))))))))))))
abbrev AlM : Type := Bool × He.AlD
def obsM (n : Nat) (g : Addr → Option Obj) : AlM := (fun K : PySem.W.Frag => (mor K, He.obsD fa fn K)) (He.frG g (He.asD g n))
abbrev hk : PySem.W.Hook where
  α := AlM
  obs := fun s => obsM 5 s.heap.get?
  val := fun _ => (true, He.valD fn)
  says := fun _ h => ∃ K : PySem.W.Frag, K.In h ∧ mor K = true ∧ He.SaysD fa fn K
  of := fun _ _ e => ⟨_, He.frG_in, congrArg (fun z : AlM => z.1) e, congrArg (fun z : AlM => z.2) e⟩
  keeps := fun _ _ _ ⟨K, hK, m, c⟩ k => ⟨K, PySem.W.Frag.In.keeps hK k, m, c⟩
abbrev R : PySem.W.OpenRow := PySem.W.OpenLaw.row PySem.Challenge.rw_twoeyes_k35_races_far
def ob (s : PySem.W.SharedT) : AlM := obsM 5 (HandSHeadRun.getT s)
theorem ob_eq (s : PySem.W.SharedT) : ob s = hk.obs s.abs := by
  have e : HandSHeadRun.getT s = s.abs.heap.get? := funext (HandSHeadRun.getT_eq s)
  show obsM 5 _ = obsM 5 _
  rw [e] <;> rfl
def loose : List PySem.Str := (["GoError", "InvalidBlack", "InvalidBlackEye", "InvalidColor", "InvalidFirst", "InvalidMove", "InvalidShared", "InvalidWhite", "InvalidWhiteEye", "NoLiberty"] : List PySem.Str) ++ (["BLACK", "WHITE", "is_integer", "is_count", "is_between", "is_color", "other_color", "check_color", "OUTSIDE", "SHARED"] : List PySem.Str) ++ (["EYE", "SHARED_PLACE", "Race", "counts_of", "race_with", "outside_in", "eye_in", "liberties_in", "race_liberties", "moves_in"] : List PySem.Str) ++ (["race_moves", "counts_behind", "race_after", "need_in", "lead_in", "result_in", "check_first", "race_result", "race_need", "race_lead"] : List PySem.Str) ++ (["result_behind", "best_in", "best_race_moves", "outside_to_take", "outside_to_stay", "_law_cell", "_law_box", "_law_take", "_law_pick", "_law_whole"] : List PySem.Str) ++ (["_law_is", "_law_total", "_law_need", "_law_lead", "_law_result", "_law_words", "_law_behind", "_law_value", "_law_best_words", "_law_race"] : List PySem.Str) ++ (["_law_five", "_law_far", "_law_near_race", "_law_counts_right", "_law_best_right", "_law_missing_right", "_law_equal_right"] : List PySem.Str)
theorem run (w : World) : HandSHeadRun.RunEq R (PySem.W.view R.prog [72]) hk ob 12000 loose w := by
  intro os
  kernel_rfl
end R35
set_option maxRecDepth 100000
set_option maxHeartbeats 0
namespace R35
open PySem PySem.Spec PyProof.Rows L2 Z
theorem fn_none {P0 : Program} {w : World} {K : PySem.W.Frag} {mg : Str → Option Value} {base : Heap} {k : Nat} {f : Addr} {fd : FuncData} {ps : List Str} {α : Type} {args : α → List Z.P} {pre : α → Prop} {res : α → Z.P → Prop} (h : ∀ x, ¬ pre x) : FnOk P0 w K mg base CX0 k f fd ps (PF K args pre res) :=
  ⟨fun vs H Q E ⟨X, x, _, _, hp, _⟩ => (h x hp).elim, fun A outer s H a us vs Q E _ _ _ _ ⟨X, x, _, _, hp, _⟩ => (h x hp).elim⟩
theorem facts {P0 : Program} {w : World} {K : PySem.W.Frag} {h : Heap} {mg : Str → Option Value} {f : Addr} (X : K.In h) (G : h.Ns mainGlobals mg) (hfa : mg ("law" : Str) = some (.ref f)) (hm : mor K = true) (c : He.SaysD fa fn K) :
    ∃ fd : FuncData, (∀ (s : Shared) (v : Value), BindsTo s fd ⟨[v], []⟩ [("script", v)]) ∧ ∀ base : Heap, K.In base → base.Ns mainGlobals mg → FnOk P0 w K mg base CX0 18 f fd ["script"] (Slaw K) := by
  unfold mor at hm
  simp only [Bool.and_eq_true, decide_eq_true_eq] at hm
  obtain ⟨m1, m2, m3, m4, m5, m6, m7, m8, m9, m10, m11, m12⟩ := hm
  have cls_Race := He.cls_ok (c.fact 71 (f := .cls "Race") rfl)
  have na_Race_black := He.noat_ok (c.fact 72 (f := .noat "Race" "black") rfl)
  have na_Race_white := He.noat_ok (c.fact 73 (f := .noat "Race" "white") rfl)
  have na_Race_shared := He.noat_ok (c.fact 74 (f := .noat "Race" "shared") rfl)
  have na_Race_black_eye := He.noat_ok (c.fact 75 (f := .noat "Race" "black_eye") rfl)
  have na_Race_white_eye := He.noat_ok (c.fact 76 (f := .noat "Race" "white_eye") rfl)
  have mk_Race := He.mkr_ok (c.fact 77 (f := .mkr "Race") rfl)
  have me_Race := He.meth_ok (c.fact 78 (f := .meth "Race" "__eq__") rfl)
  have kf : Kf K := ⟨⟨cls_Race, He.eqO_ok m9, He.eqO_ok m10, m11, m12⟩, cls_Race, na_Race_black, na_Race_white, na_Race_shared, na_Race_black_eye, na_Race_white_eye, m3, m4, m5, m6, m7, m8⟩
  have mo : Mo K mg := { n_abs := He.free_ok X G (c.fact 0 (f := .free "abs") rfl), n_bool := He.free_ok X G (c.fact 1 (f := .free "bool") rfl), n_enumerate := He.free_ok X G (c.fact 2 (f := .free "enumerate") rfl), n_int := He.free_ok X G (c.fact 3 (f := .free "int") rfl), n_isinstance := He.free_ok X G (c.fact 4 (f := .free "isinstance") rfl), n_len := He.free_ok X G (c.fact 5 (f := .free "len") rfl), n_list := He.free_ok X G (c.fact 6 (f := .free "list") rfl), n_max := He.free_ok X G (c.fact 7 (f := .free "max") rfl), n_min := He.free_ok X G (c.fact 8 (f := .free "min") rfl), n_range := He.free_ok X G (c.fact 9 (f := .free "range") rfl), n_str := He.free_ok X G (c.fact 10 (f := .free "str") rfl), n_sum := He.free_ok X G (c.fact 11 (f := .free "sum") rfl), n_tuple := He.free_ok X G (c.fact 12 (f := .free "tuple") rfl), g_BLACK := He.int_ok X G (c.fact 13 (f := .int "BLACK" 1) rfl), g_SHARED_PLACE := He.int_ok X G (c.fact 14 (f := .int "SHARED_PLACE" 2) rfl), g_WHITE := He.int_ok X G (c.fact 15 (f := .int "WHITE" 2) rfl), g_EYE := He.str_ok X G (c.fact 16 (f := .str "EYE" "eye") rfl), g_OUTSIDE := He.str_ok X G (c.fact 17 (f := .str "OUTSIDE" "outside") rfl), g_SHARED := He.str_ok X G (c.fact 18 (f := .str "SHARED" "shared") rfl), g_Race := He.glo_ok X G (c.fact 70 (f := .glo "Race") rfl) }
  have gC_Race : mg ("Race" : Str) = some (.ref (He.ga K "Race")) := He.glo_ok X G (c.fact 70 (f := .glo "Race") rfl)
  have eqc_Race : EqC K (He.ga K "Race") (He.ma K (He.ga K "Race") "__eq__") := ⟨me_Race.at_, me_Race.fn, He.eqO_ok m1, m2⟩
  obtain ⟨fd_is_integer, F_is_integer⟩ := c.def_ 0 (d := d_is_integer) rfl
  obtain ⟨fd_is_count, F_is_count⟩ := c.def_ 1 (d := d_is_count) rfl
  obtain ⟨fd_is_between, F_is_between⟩ := c.def_ 2 (d := d_is_between) rfl
  obtain ⟨fd_is_color, F_is_color⟩ := c.def_ 3 (d := d_is_color) rfl
  obtain ⟨fd_other_color, F_other_color⟩ := c.def_ 4 (d := d_other_color) rfl
  obtain ⟨fd_check_color, F_check_color⟩ := c.def_ 5 (d := d_check_color) rfl
  obtain ⟨fd_Race__init__, F_Race__init__⟩ := c.def_ 6 (d := d_Race__init__) rfl
  obtain ⟨fd_counts_of, F_counts_of⟩ := c.def_ 7 (d := d_counts_of) rfl
  obtain ⟨fd_Race__eq__, F_Race__eq__⟩ := c.def_ 8 (d := d_Race__eq__) rfl
  obtain ⟨fd_race_with, F_race_with⟩ := c.def_ 9 (d := d_race_with) rfl
  obtain ⟨fd_outside_in, F_outside_in⟩ := c.def_ 10 (d := d_outside_in) rfl
  obtain ⟨fd_eye_in, F_eye_in⟩ := c.def_ 11 (d := d_eye_in) rfl
  obtain ⟨fd_liberties_in, F_liberties_in⟩ := c.def_ 12 (d := d_liberties_in) rfl
  obtain ⟨fd_race_liberties, F_race_liberties⟩ := c.def_ 13 (d := d_race_liberties) rfl
  obtain ⟨fd_moves_in, F_moves_in⟩ := c.def_ 14 (d := d_moves_in) rfl
  obtain ⟨fd_race_moves, F_race_moves⟩ := c.def_ 15 (d := d_race_moves) rfl
  obtain ⟨fd_counts_behind, F_counts_behind⟩ := c.def_ 16 (d := d_counts_behind) rfl
  obtain ⟨fd_race_after, F_race_after⟩ := c.def_ 17 (d := d_race_after) rfl
  obtain ⟨fd_need_in, F_need_in⟩ := c.def_ 18 (d := d_need_in) rfl
  obtain ⟨fd_lead_in, F_lead_in⟩ := c.def_ 19 (d := d_lead_in) rfl
  obtain ⟨fd_result_in, F_result_in⟩ := c.def_ 20 (d := d_result_in) rfl
  obtain ⟨fd_check_first, F_check_first⟩ := c.def_ 21 (d := d_check_first) rfl
  obtain ⟨fd_race_result, F_race_result⟩ := c.def_ 22 (d := d_race_result) rfl
  obtain ⟨fd_race_need, F_race_need⟩ := c.def_ 23 (d := d_race_need) rfl
  obtain ⟨fd_race_lead, F_race_lead⟩ := c.def_ 24 (d := d_race_lead) rfl
  obtain ⟨fd_result_behind, F_result_behind⟩ := c.def_ 25 (d := d_result_behind) rfl
  obtain ⟨fd_best_in, F_best_in⟩ := c.def_ 26 (d := d_best_in) rfl
  obtain ⟨fd_best_race_moves, F_best_race_moves⟩ := c.def_ 27 (d := d_best_race_moves) rfl
  obtain ⟨fd_outside_to_take, F_outside_to_take⟩ := c.def_ 28 (d := d_outside_to_take) rfl
  obtain ⟨fd_outside_to_stay, F_outside_to_stay⟩ := c.def_ 29 (d := d_outside_to_stay) rfl
  obtain ⟨fd__law_cell, F__law_cell⟩ := c.def_ 30 (d := d__law_cell) rfl
  obtain ⟨fd__law_box, F__law_box⟩ := c.def_ 31 (d := d__law_box) rfl
  obtain ⟨fd__law_take, F__law_take⟩ := c.def_ 32 (d := d__law_take) rfl
  obtain ⟨fd__law_pick, F__law_pick⟩ := c.def_ 33 (d := d__law_pick) rfl
  obtain ⟨fd__law_whole, F__law_whole⟩ := c.def_ 34 (d := d__law_whole) rfl
  obtain ⟨fd__law_is, F__law_is⟩ := c.def_ 35 (d := d__law_is) rfl
  obtain ⟨fd__law_total, F__law_total⟩ := c.def_ 36 (d := d__law_total) rfl
  obtain ⟨fd__law_need, F__law_need⟩ := c.def_ 37 (d := d__law_need) rfl
  obtain ⟨fd__law_lead, F__law_lead⟩ := c.def_ 38 (d := d__law_lead) rfl
  obtain ⟨fd__law_result, F__law_result⟩ := c.def_ 39 (d := d__law_result) rfl
  obtain ⟨fd__law_words, F__law_words⟩ := c.def_ 40 (d := d__law_words) rfl
  obtain ⟨fd__law_behind, F__law_behind⟩ := c.def_ 41 (d := d__law_behind) rfl
  obtain ⟨fd__law_value, F__law_value⟩ := c.def_ 42 (d := d__law_value) rfl
  obtain ⟨fd__law_best_words, F__law_best_words⟩ := c.def_ 43 (d := d__law_best_words) rfl
  obtain ⟨fd__law_race, F__law_race⟩ := c.def_ 44 (d := d__law_race) rfl
  obtain ⟨fd__law_five, F__law_five⟩ := c.def_ 45 (d := d__law_five) rfl
  obtain ⟨fd__law_far, F__law_far⟩ := c.def_ 46 (d := d__law_far) rfl
  obtain ⟨fd__law_near_race, F__law_near_race⟩ := c.def_ 47 (d := d__law_near_race) rfl
  obtain ⟨fd__law_counts_right, F__law_counts_right⟩ := c.def_ 48 (d := d__law_counts_right) rfl
  obtain ⟨fd__law_best_right, F__law_best_right⟩ := c.def_ 49 (d := d__law_best_right) rfl
  obtain ⟨fd__law_missing_right, F__law_missing_right⟩ := c.def_ 50 (d := d__law_missing_right) rfl
  obtain ⟨fd__law_equal_right, F__law_equal_right⟩ := c.def_ 51 (d := d__law_equal_right) rfl
  obtain ⟨fd_law, F_law⟩ := c.def_ 52 (d := d_law) rfl
  have e := hfa.symm.trans (He.glo_ok X G (c.fact 69 (f := .glo "law") rfl))
  cases e
  have b := FunD.bindsA (ps := ["script"]) F_law fun _ _ _ _ _ _ us hl => match us, hl with | [_], _ => rfl
  refine ⟨fd_law, fun s v => b s [v] rfl, fun base _ _ => ?_⟩
  have O_is_integer : FnOk P0 w K mg base CX0 2 _ fd_is_integer ["value"] (Sis_integer K) := fn_pf (k := 1) F_is_integer sc_is_integer (fun _ => rfl) (dv_is_integer (k := 0) mo) (fun p hp => pl_is_integer p hp)
  have g_is_integer : mg ("is_integer" : Str) = some (.ref (He.ga K "is_integer")) := He.glo_ok X G (c.fact 19 (f := .glo "is_integer") rfl)
  have C_is_integer : Cal P0 w K mg base 2 "is_integer" ["value"] (Sis_integer K) := ⟨_, _, O_is_integer, g_is_integer, F_is_integer.kp, F_is_integer.bindsN fun _ _ _ _ _ _ us hl => match us, hl with | [_], _ => rfl⟩
  have O_is_count : FnOk P0 w K mg base CX0 4 _ fd_is_count ["value"] (Sis_count K) := fn_pf (k := 3) F_is_count sc_is_count (fun _ => rfl) (dv_is_count (k := 2) mo (C_is_integer.mono (by decide))) (fun i _ => pl_is_count i)
  have g_is_count : mg ("is_count" : Str) = some (.ref (He.ga K "is_count")) := He.glo_ok X G (c.fact 20 (f := .glo "is_count") rfl)
  have C_is_count : Cal P0 w K mg base 4 "is_count" ["value"] (Sis_count K) := ⟨_, _, O_is_count, g_is_count, F_is_count.kp, F_is_count.bindsN fun _ _ _ _ _ _ us hl => match us, hl with | [_], _ => rfl⟩
  have O_is_between : FnOk P0 w K mg base CX0 4 _ fd_is_between ["value", "least", "most"] (Sis_between K) := fn_pf (k := 3) F_is_between sc_is_between (fun _ => rfl) (dv_is_between (k := 2) mo (C_is_integer.mono (by decide))) (fun x hx => pl_is_between x.1 x.2.1 x.2.2 hx)
  have g_is_between : mg ("is_between" : Str) = some (.ref (He.ga K "is_between")) := He.glo_ok X G (c.fact 21 (f := .glo "is_between") rfl)
  have C_is_between : Cal P0 w K mg base 4 "is_between" ["value", "least", "most"] (Sis_between K) := ⟨_, _, O_is_between, g_is_between, F_is_between.kp, F_is_between.bindsN fun _ _ _ _ _ _ us hl => match us, hl with | [_, _, _], _ => rfl⟩
  have O_is_color : FnOk P0 w K mg base CX0 6 _ fd_is_color ["value"] (Sis_color K) := fn_pf (k := 5) F_is_color sc_is_color (fun _ => rfl) (dv_is_color (k := 4) mo (C_is_between.mono (by decide))) (fun p hp => pl_is_color p hp)
  have g_is_color : mg ("is_color" : Str) = some (.ref (He.ga K "is_color")) := He.glo_ok X G (c.fact 22 (f := .glo "is_color") rfl)
  have C_is_color : Cal P0 w K mg base 6 "is_color" ["value"] (Sis_color K) := ⟨_, _, O_is_color, g_is_color, F_is_color.kp, F_is_color.bindsN fun _ _ _ _ _ _ us hl => match us, hl with | [_], _ => rfl⟩
  have O_other_color : FnOk P0 w K mg base CX0 2 _ fd_other_color ["color"] (Sother_color K) := fn_pf (k := 1) F_other_color sc_other_color (fun _ => rfl) (dv_other_color (k := 0) mo) (fun k _ => pl_other_color k)
  have g_other_color : mg ("other_color" : Str) = some (.ref (He.ga K "other_color")) := He.glo_ok X G (c.fact 23 (f := .glo "other_color") rfl)
  have C_other_color : Cal P0 w K mg base 2 "other_color" ["color"] (Sother_color K) := ⟨_, _, O_other_color, g_other_color, F_other_color.kp, F_other_color.bindsN fun _ _ _ _ _ _ us hl => match us, hl with | [_], _ => rfl⟩
  have O_check_color : FnOk P0 w K mg base CX0 8 _ fd_check_color ["color"] (Scheck_color K) := fn_pf (k := 7) F_check_color sc_check_color (fun _ => rfl) (dv_check_color (k := 6) mo (C_is_color.mono (by decide))) (fun k hk => pl_check_color k hk)
  have g_check_color : mg ("check_color" : Str) = some (.ref (He.ga K "check_color")) := He.glo_ok X G (c.fact 24 (f := .glo "check_color") rfl)
  have C_check_color : Cal P0 w K mg base 8 "check_color" ["color"] (Scheck_color K) := ⟨_, _, O_check_color, g_check_color, F_check_color.kp, F_check_color.bindsN fun _ _ _ _ _ _ us hl => match us, hl with | [_], _ => rfl⟩
  have O_Race__init__ : FnOk P0 w K mg base CX0 6 _ fd_Race__init__ ["self", "black", "white", "shared", "black_eye", "white_eye"] (SRace__init__ K) := fn_mf (k := 5) F_Race__init__ sc_Race__init__ (fun _ => rfl) (dv_Race__init__ (k := 4) mo (C_is_count.mono (by decide))) (fun n w => pl_Race__init__ kf n w)
  have CM_Race : CalM P0 w K mg base 6 "Race" (He.ga K "Race") (SRace__init__ K) := ⟨_, _, _, mk_Race, O_Race__init__, gC_Race, F_Race__init__.bindsN fun _ _ _ _ _ _ us hl => match us, hl with | [_, _, _, _, _, _], _ => rfl⟩
  have cmn_Race_0_5_4_3_2_1 : CalMN P0 w K mg base 6 "Race" (He.ga K "Race") ["white_eye", "black_eye", "shared", "white", "black"] [0, 5, 4, 3, 2, 1] (SRace__init__ K) := ⟨_, _, _, mk_Race, O_Race__init__, gC_Race, kbN F_Race__init__ 1 _ [0, 5, 4, 3, 2, 1] fun _ _ _ _ _ _ us ws h1 h2 => match us, ws, h1, h2 with | [_], [_, _, _, _, _], _, _ => rfl⟩
  have O_counts_of : FnOk P0 w K mg base CX0 2 _ fd_counts_of ["race"] (Scounts_of K) := fn_pf (k := 1) F_counts_of sc_counts_of (fun _ => rfl) (dv_counts_of (k := 0) mo) (fun n _ => pl_counts_of kf n)
  have g_counts_of : mg ("counts_of" : Str) = some (.ref (He.ga K "counts_of")) := He.glo_ok X G (c.fact 25 (f := .glo "counts_of") rfl)
  have C_counts_of : Cal P0 w K mg base 2 "counts_of" ["race"] (Scounts_of K) := ⟨_, _, O_counts_of, g_counts_of, F_counts_of.kp, F_counts_of.bindsN fun _ _ _ _ _ _ us hl => match us, hl with | [_], _ => rfl⟩
  have O_Race__eq__ : FnOk P0 w K mg base CX0 4 _ fd_Race__eq__ ["self", "other"] (SRace__eq__ K) := fn_pf (k := 3) F_Race__eq__ sc_Race__eq__ (fun _ => rfl) (dv_Race__eq__ (k := 2) mo (C_counts_of.mono (by decide))) (fun x _ => pl_Race__eq__ kf x.1 x.2)
  have CE_Race : CalE P0 w K mg base 4 (He.ga K "Race") (SRace__eq__ K) := ⟨_, _, _, eqc_Race, O_Race__eq__, F_Race__eq__.bindsN fun _ _ _ _ _ _ us hl => match us, hl with | [_, _], _ => rfl⟩
  have O_race_with : FnOk P0 w K mg base CX0 8 _ fd_race_with ["counts"] (Srace_with K) := fn_pf (k := 7) F_race_with sc_race_with (fun _ => rfl) (dv_race_with (k := 6) mo (CM_Race.mono (by decide))) (fun n w => pl_race_with n w)
  have g_race_with : mg ("race_with" : Str) = some (.ref (He.ga K "race_with")) := He.glo_ok X G (c.fact 26 (f := .glo "race_with") rfl)
  have C_race_with : Cal P0 w K mg base 8 "race_with" ["counts"] (Srace_with K) := ⟨_, _, O_race_with, g_race_with, F_race_with.kp, F_race_with.bindsN fun _ _ _ _ _ _ us hl => match us, hl with | [_], _ => rfl⟩
  have O_outside_in : FnOk P0 w K mg base CX0 2 _ fd_outside_in ["counts", "color"] (Soutside_in K) := fn_pf (k := 1) F_outside_in sc_outside_in (fun _ => rfl) (dv_outside_in (k := 0) mo) (fun x hx => pl_outside_in x.1 x.2 hx)
  have g_outside_in : mg ("outside_in" : Str) = some (.ref (He.ga K "outside_in")) := He.glo_ok X G (c.fact 27 (f := .glo "outside_in") rfl)
  have C_outside_in : Cal P0 w K mg base 2 "outside_in" ["counts", "color"] (Soutside_in K) := ⟨_, _, O_outside_in, g_outside_in, F_outside_in.kp, F_outside_in.bindsN fun _ _ _ _ _ _ us hl => match us, hl with | [_, _], _ => rfl⟩
  have O_eye_in : FnOk P0 w K mg base CX0 2 _ fd_eye_in ["counts", "color"] (Seye_in K) := fn_pf (k := 1) F_eye_in sc_eye_in (fun _ => rfl) (dv_eye_in (k := 0) mo) (fun x hx => pl_eye_in x.1 x.2 hx)
  have g_eye_in : mg ("eye_in" : Str) = some (.ref (He.ga K "eye_in")) := He.glo_ok X G (c.fact 28 (f := .glo "eye_in") rfl)
  have C_eye_in : Cal P0 w K mg base 2 "eye_in" ["counts", "color"] (Seye_in K) := ⟨_, _, O_eye_in, g_eye_in, F_eye_in.kp, F_eye_in.bindsN fun _ _ _ _ _ _ us hl => match us, hl with | [_, _], _ => rfl⟩
  have O_liberties_in : FnOk P0 w K mg base CX0 4 _ fd_liberties_in ["counts", "color"] (Sliberties_in K) := fn_pf (k := 3) F_liberties_in sc_liberties_in (fun _ => rfl) (dv_liberties_in (k := 2) mo (C_outside_in.mono (by decide)) (C_eye_in.mono (by decide))) (fun x hx => pl_liberties_in x.1 x.2 hx)
  have g_liberties_in : mg ("liberties_in" : Str) = some (.ref (He.ga K "liberties_in")) := He.glo_ok X G (c.fact 29 (f := .glo "liberties_in") rfl)
  have C_liberties_in : Cal P0 w K mg base 4 "liberties_in" ["counts", "color"] (Sliberties_in K) := ⟨_, _, O_liberties_in, g_liberties_in, F_liberties_in.kp, F_liberties_in.bindsN fun _ _ _ _ _ _ us hl => match us, hl with | [_, _], _ => rfl⟩
  have O_race_liberties : FnOk P0 w K mg base CX0 10 _ fd_race_liberties ["race", "color"] (Srace_liberties K) := fn_pf (k := 9) F_race_liberties sc_race_liberties (fun _ => rfl) (dv_race_liberties (k := 8) mo (C_check_color.mono (by decide)) (C_liberties_in.mono (by decide)) (C_counts_of.mono (by decide))) (fun x hx => pl_race_liberties x.1 x.2 hx)
  have g_race_liberties : mg ("race_liberties" : Str) = some (.ref (He.ga K "race_liberties")) := He.glo_ok X G (c.fact 30 (f := .glo "race_liberties") rfl)
  have C_race_liberties : Cal P0 w K mg base 10 "race_liberties" ["race", "color"] (Srace_liberties K) := ⟨_, _, O_race_liberties, g_race_liberties, F_race_liberties.kp, F_race_liberties.bindsN fun _ _ _ _ _ _ us hl => match us, hl with | [_, _], _ => rfl⟩
  have cn_race_liberties_1_0 : CalN P0 w K mg base 10 "race_liberties" 0 ["color", "race"] [1, 0] (Srace_liberties K) := ⟨_, _, _, O_race_liberties, g_race_liberties, F_race_liberties.kp, kbN F_race_liberties 0 _ [1, 0] fun _ _ _ _ _ _ us ws h1 h2 => match us, ws, h1, h2 with | [], [_, _], _, _ => rfl⟩
  have O_moves_in : FnOk P0 w K mg base CX0 6 _ fd_moves_in ["counts", "color"] (Smoves_in K) := fn_pc (k := 5) F_moves_in sc_moves_in (fun _ => rfl) (dv_moves_in (k := 4) mo (C_other_color.mono (by decide)) (C_liberties_in.mono (by decide)) (C_outside_in.mono (by decide)) (C_eye_in.mono (by decide))) (fun x hx => pl_moves_in x.1 x.2 hx)
  have g_moves_in : mg ("moves_in" : Str) = some (.ref (He.ga K "moves_in")) := He.glo_ok X G (c.fact 31 (f := .glo "moves_in") rfl)
  have C_moves_in : Cal P0 w K mg base 6 "moves_in" ["counts", "color"] (Smoves_in K) := ⟨_, _, O_moves_in, g_moves_in, F_moves_in.kp, F_moves_in.bindsN fun _ _ _ _ _ _ us hl => match us, hl with | [_, _], _ => rfl⟩
  have O_race_moves : FnOk P0 w K mg base CX0 10 _ fd_race_moves ["race", "color"] (Srace_moves K) := fn_pc (k := 9) F_race_moves sc_race_moves (fun _ => rfl) (dv_race_moves (k := 8) mo (C_check_color.mono (by decide)) (C_moves_in.mono (by decide)) (C_counts_of.mono (by decide))) (fun x hx => pl_race_moves x.1 x.2 hx)
  have g_race_moves : mg ("race_moves" : Str) = some (.ref (He.ga K "race_moves")) := He.glo_ok X G (c.fact 32 (f := .glo "race_moves") rfl)
  have C_race_moves : Cal P0 w K mg base 10 "race_moves" ["race", "color"] (Srace_moves K) := ⟨_, _, O_race_moves, g_race_moves, F_race_moves.kp, F_race_moves.bindsN fun _ _ _ _ _ _ us hl => match us, hl with | [_, _], _ => rfl⟩
  have cn_race_moves_1_0 : CalN P0 w K mg base 10 "race_moves" 0 ["color", "race"] [1, 0] (Srace_moves K) := ⟨_, _, _, O_race_moves, g_race_moves, F_race_moves.kp, kbN F_race_moves 0 _ [1, 0] fun _ _ _ _ _ _ us ws h1 h2 => match us, ws, h1, h2 with | [], [_, _], _, _ => rfl⟩
  have O_counts_behind : FnOk P0 w K mg base CX0 4 _ fd_counts_behind ["counts", "color", "word"] (Scounts_behind K) := fn_pf (k := 3) F_counts_behind sc_counts_behind (fun _ => rfl) (dv_counts_behind (k := 2) mo (C_other_color.mono (by decide))) (fun x hx => pl_counts_behind x.1 x.2.1 x.2.2 hx.1 hx.2)
  have g_counts_behind : mg ("counts_behind" : Str) = some (.ref (He.ga K "counts_behind")) := He.glo_ok X G (c.fact 33 (f := .glo "counts_behind") rfl)
  have C_counts_behind : Cal P0 w K mg base 4 "counts_behind" ["counts", "color", "word"] (Scounts_behind K) := ⟨_, _, O_counts_behind, g_counts_behind, F_counts_behind.kp, F_counts_behind.bindsN fun _ _ _ _ _ _ us hl => match us, hl with | [_, _, _], _ => rfl⟩
  have O_race_after : FnOk P0 w K mg base CX0 10 _ fd_race_after ["race", "color", "move"] (Srace_after K) := fn_pf (k := 9) F_race_after sc_race_after (fun _ => rfl) (dv_race_after (k := 8) mo (C_check_color.mono (by decide)) (C_counts_of.mono (by decide)) (C_race_with.mono (by decide)) (C_moves_in.mono (by decide)) (C_counts_behind.mono (by decide)) (C_liberties_in.mono (by decide)) (C_other_color.mono (by decide))) (fun x hx => pl_race_after x.1 x.2.1 x.2.2 hx.1 hx.2.1 hx.2.2)
  have g_race_after : mg ("race_after" : Str) = some (.ref (He.ga K "race_after")) := He.glo_ok X G (c.fact 34 (f := .glo "race_after") rfl)
  have C_race_after : Cal P0 w K mg base 10 "race_after" ["race", "color", "move"] (Srace_after K) := ⟨_, _, O_race_after, g_race_after, F_race_after.kp, F_race_after.bindsN fun _ _ _ _ _ _ us hl => match us, hl with | [_, _, _], _ => rfl⟩
  have cn_race_after_2_1_0 : CalN P0 w K mg base 10 "race_after" 0 ["move", "color", "race"] [2, 1, 0] (Srace_after K) := ⟨_, _, _, O_race_after, g_race_after, F_race_after.kp, kbN F_race_after 0 _ [2, 1, 0] fun _ _ _ _ _ _ us ws h1 h2 => match us, ws, h1, h2 with | [], [_, _, _], _, _ => rfl⟩
  have O_need_in : FnOk P0 w K mg base CX0 4 _ fd_need_in ["counts", "color"] (Sneed_in K) := fn_pf (k := 3) F_need_in sc_need_in (fun _ => rfl) (dv_need_in (k := 2) mo (C_eye_in.mono (by decide)) (C_other_color.mono (by decide))) (fun x hx => pl_need_in x.1 x.2 hx)
  have g_need_in : mg ("need_in" : Str) = some (.ref (He.ga K "need_in")) := He.glo_ok X G (c.fact 35 (f := .glo "need_in") rfl)
  have C_need_in : Cal P0 w K mg base 4 "need_in" ["counts", "color"] (Sneed_in K) := ⟨_, _, O_need_in, g_need_in, F_need_in.kp, F_need_in.bindsN fun _ _ _ _ _ _ us hl => match us, hl with | [_, _], _ => rfl⟩
  have O_lead_in : FnOk P0 w K mg base CX0 6 _ fd_lead_in ["counts", "color"] (Slead_in K) := fn_pf (k := 5) F_lead_in sc_lead_in (fun _ => rfl) (dv_lead_in (k := 4) mo (C_other_color.mono (by decide)) (C_outside_in.mono (by decide)) (C_eye_in.mono (by decide)) (C_need_in.mono (by decide))) (fun x hx => pl_lead_in x.1 x.2 hx)
  have g_lead_in : mg ("lead_in" : Str) = some (.ref (He.ga K "lead_in")) := He.glo_ok X G (c.fact 36 (f := .glo "lead_in") rfl)
  have C_lead_in : Cal P0 w K mg base 6 "lead_in" ["counts", "color"] (Slead_in K) := ⟨_, _, O_lead_in, g_lead_in, F_lead_in.kp, F_lead_in.bindsN fun _ _ _ _ _ _ us hl => match us, hl with | [_, _], _ => rfl⟩
  have O_result_in : FnOk P0 w K mg base CX0 8 _ fd_result_in ["counts", "first"] (Sresult_in K) := fn_pf (k := 7) F_result_in sc_result_in (fun _ => rfl) (dv_result_in (k := 6) mo (C_other_color.mono (by decide)) (C_lead_in.mono (by decide))) (fun x hx => pl_result_in x.1 x.2 hx)
  have g_result_in : mg ("result_in" : Str) = some (.ref (He.ga K "result_in")) := He.glo_ok X G (c.fact 37 (f := .glo "result_in") rfl)
  have C_result_in : Cal P0 w K mg base 8 "result_in" ["counts", "first"] (Sresult_in K) := ⟨_, _, O_result_in, g_result_in, F_result_in.kp, F_result_in.bindsN fun _ _ _ _ _ _ us hl => match us, hl with | [_, _], _ => rfl⟩
  have O_check_first : FnOk P0 w K mg base CX0 8 _ fd_check_first ["first"] (Scheck_first K) := fn_pf (k := 7) F_check_first sc_check_first (fun _ => rfl) (dv_check_first (k := 6) mo (C_is_color.mono (by decide))) (fun k hk => pl_check_first k hk)
  have g_check_first : mg ("check_first" : Str) = some (.ref (He.ga K "check_first")) := He.glo_ok X G (c.fact 38 (f := .glo "check_first") rfl)
  have C_check_first : Cal P0 w K mg base 8 "check_first" ["first"] (Scheck_first K) := ⟨_, _, O_check_first, g_check_first, F_check_first.kp, F_check_first.bindsN fun _ _ _ _ _ _ us hl => match us, hl with | [_], _ => rfl⟩
  have O_race_result : FnOk P0 w K mg base CX0 10 _ fd_race_result ["race", "first"] (Srace_result K) := fn_pf (k := 9) F_race_result sc_race_result (fun _ => rfl) (dv_race_result (k := 8) mo (C_check_first.mono (by decide)) (C_result_in.mono (by decide)) (C_counts_of.mono (by decide))) (fun x hx => pl_race_result x.1 x.2 hx)
  have g_race_result : mg ("race_result" : Str) = some (.ref (He.ga K "race_result")) := He.glo_ok X G (c.fact 39 (f := .glo "race_result") rfl)
  have C_race_result : Cal P0 w K mg base 10 "race_result" ["race", "first"] (Srace_result K) := ⟨_, _, O_race_result, g_race_result, F_race_result.kp, F_race_result.bindsN fun _ _ _ _ _ _ us hl => match us, hl with | [_, _], _ => rfl⟩
  have cn_race_result_1_0 : CalN P0 w K mg base 10 "race_result" 0 ["first", "race"] [1, 0] (Srace_result K) := ⟨_, _, _, O_race_result, g_race_result, F_race_result.kp, kbN F_race_result 0 _ [1, 0] fun _ _ _ _ _ _ us ws h1 h2 => match us, ws, h1, h2 with | [], [_, _], _, _ => rfl⟩
  have O_race_need : FnOk P0 w K mg base CX0 10 _ fd_race_need ["race", "color"] (Srace_need K) := fn_pf (k := 9) F_race_need sc_race_need (fun _ => rfl) (dv_race_need (k := 8) mo (C_check_color.mono (by decide)) (C_need_in.mono (by decide)) (C_counts_of.mono (by decide))) (fun x hx => pl_race_need x.1 x.2 hx)
  have g_race_need : mg ("race_need" : Str) = some (.ref (He.ga K "race_need")) := He.glo_ok X G (c.fact 40 (f := .glo "race_need") rfl)
  have C_race_need : Cal P0 w K mg base 10 "race_need" ["race", "color"] (Srace_need K) := ⟨_, _, O_race_need, g_race_need, F_race_need.kp, F_race_need.bindsN fun _ _ _ _ _ _ us hl => match us, hl with | [_, _], _ => rfl⟩
  have cn_race_need_1_0 : CalN P0 w K mg base 10 "race_need" 0 ["color", "race"] [1, 0] (Srace_need K) := ⟨_, _, _, O_race_need, g_race_need, F_race_need.kp, kbN F_race_need 0 _ [1, 0] fun _ _ _ _ _ _ us ws h1 h2 => match us, ws, h1, h2 with | [], [_, _], _, _ => rfl⟩
  have O_race_lead : FnOk P0 w K mg base CX0 10 _ fd_race_lead ["race", "color"] (Srace_lead K) := fn_pf (k := 9) F_race_lead sc_race_lead (fun _ => rfl) (dv_race_lead (k := 8) mo (C_check_color.mono (by decide)) (C_lead_in.mono (by decide)) (C_counts_of.mono (by decide))) (fun x hx => pl_race_lead x.1 x.2 hx)
  have g_race_lead : mg ("race_lead" : Str) = some (.ref (He.ga K "race_lead")) := He.glo_ok X G (c.fact 41 (f := .glo "race_lead") rfl)
  have C_race_lead : Cal P0 w K mg base 10 "race_lead" ["race", "color"] (Srace_lead K) := ⟨_, _, O_race_lead, g_race_lead, F_race_lead.kp, F_race_lead.bindsN fun _ _ _ _ _ _ us hl => match us, hl with | [_, _], _ => rfl⟩
  have cn_race_lead_1_0 : CalN P0 w K mg base 10 "race_lead" 0 ["color", "race"] [1, 0] (Srace_lead K) := ⟨_, _, _, O_race_lead, g_race_lead, F_race_lead.kp, kbN F_race_lead 0 _ [1, 0] fun _ _ _ _ _ _ us ws h1 h2 => match us, ws, h1, h2 with | [], [_, _], _, _ => rfl⟩
  have O_result_behind : FnOk P0 w K mg base CX0 10 _ fd_result_behind ["counts", "color", "word"] (Sresult_behind K) := fn_pf (k := 9) F_result_behind sc_result_behind (fun _ => rfl) (dv_result_behind (k := 8) mo (C_other_color.mono (by decide)) (C_lead_in.mono (by decide)) (C_counts_behind.mono (by decide)) (C_liberties_in.mono (by decide)) (C_result_in.mono (by decide))) (fun x hx => pl_result_behind x.1 x.2.1 x.2.2 hx.1 hx.2)
  have g_result_behind : mg ("result_behind" : Str) = some (.ref (He.ga K "result_behind")) := He.glo_ok X G (c.fact 42 (f := .glo "result_behind") rfl)
  have C_result_behind : Cal P0 w K mg base 10 "result_behind" ["counts", "color", "word"] (Sresult_behind K) := ⟨_, _, O_result_behind, g_result_behind, F_result_behind.kp, F_result_behind.bindsN fun _ _ _ _ _ _ us hl => match us, hl with | [_, _, _], _ => rfl⟩
  have O_best_in : FnOk P0 w K mg base CX0 12 _ fd_best_in ["counts", "color"] (Sbest_in K) := fn_pc (k := 11) F_best_in sc_best_in (fun _ => rfl) (dv_best_in (k := 10) mo (C_other_color.mono (by decide)) (C_moves_in.mono (by decide)) (C_result_behind.mono (by decide))) (fun x hx => pl_best_in x.1 x.2 hx)
  have g_best_in : mg ("best_in" : Str) = some (.ref (He.ga K "best_in")) := He.glo_ok X G (c.fact 43 (f := .glo "best_in") rfl)
  have C_best_in : Cal P0 w K mg base 12 "best_in" ["counts", "color"] (Sbest_in K) := ⟨_, _, O_best_in, g_best_in, F_best_in.kp, F_best_in.bindsN fun _ _ _ _ _ _ us hl => match us, hl with | [_, _], _ => rfl⟩
  have O_best_race_moves : FnOk P0 w K mg base CX0 14 _ fd_best_race_moves ["race", "color"] (Sbest_race_moves K) := fn_pc (k := 13) F_best_race_moves sc_best_race_moves (fun _ => rfl) (dv_best_race_moves (k := 12) mo (C_check_color.mono (by decide)) (C_best_in.mono (by decide)) (C_counts_of.mono (by decide))) (fun x hx => pl_best_race_moves x.1 x.2 hx)
  have g_best_race_moves : mg ("best_race_moves" : Str) = some (.ref (He.ga K "best_race_moves")) := He.glo_ok X G (c.fact 44 (f := .glo "best_race_moves") rfl)
  have C_best_race_moves : Cal P0 w K mg base 14 "best_race_moves" ["race", "color"] (Sbest_race_moves K) := ⟨_, _, O_best_race_moves, g_best_race_moves, F_best_race_moves.kp, F_best_race_moves.bindsN fun _ _ _ _ _ _ us hl => match us, hl with | [_, _], _ => rfl⟩
  have cn_best_race_moves_1_0 : CalN P0 w K mg base 14 "best_race_moves" 0 ["color", "race"] [1, 0] (Sbest_race_moves K) := ⟨_, _, _, O_best_race_moves, g_best_race_moves, F_best_race_moves.kp, kbN F_best_race_moves 0 _ [1, 0] fun _ _ _ _ _ _ us ws h1 h2 => match us, ws, h1, h2 with | [], [_, _], _, _ => rfl⟩
  have O_outside_to_take : FnOk P0 w K mg base CX0 10 _ fd_outside_to_take ["race", "color", "first"] (Soutside_to_take K) := fn_pf (k := 9) F_outside_to_take sc_outside_to_take (fun _ => rfl) (dv_outside_to_take (k := 8) mo (C_check_color.mono (by decide)) (C_check_first.mono (by decide)) (C_lead_in.mono (by decide)) (C_counts_of.mono (by decide))) (fun x hx => pl_outside_to_take x.1 x.2.1 x.2.2 hx.1 hx.2)
  have g_outside_to_take : mg ("outside_to_take" : Str) = some (.ref (He.ga K "outside_to_take")) := He.glo_ok X G (c.fact 45 (f := .glo "outside_to_take") rfl)
  have C_outside_to_take : Cal P0 w K mg base 10 "outside_to_take" ["race", "color", "first"] (Soutside_to_take K) := ⟨_, _, O_outside_to_take, g_outside_to_take, F_outside_to_take.kp, F_outside_to_take.bindsN fun _ _ _ _ _ _ us hl => match us, hl with | [_, _, _], _ => rfl⟩
  have cn_outside_to_take_2_1_0 : CalN P0 w K mg base 10 "outside_to_take" 0 ["first", "color", "race"] [2, 1, 0] (Soutside_to_take K) := ⟨_, _, _, O_outside_to_take, g_outside_to_take, F_outside_to_take.kp, kbN F_outside_to_take 0 _ [2, 1, 0] fun _ _ _ _ _ _ us ws h1 h2 => match us, ws, h1, h2 with | [], [_, _, _], _, _ => rfl⟩
  have O_outside_to_stay : FnOk P0 w K mg base CX0 10 _ fd_outside_to_stay ["race", "color", "first"] (Soutside_to_stay K) := fn_pf (k := 9) F_outside_to_stay sc_outside_to_stay (fun _ => rfl) (dv_outside_to_stay (k := 8) mo (C_check_color.mono (by decide)) (C_check_first.mono (by decide)) (C_lead_in.mono (by decide)) (C_counts_of.mono (by decide)) (C_other_color.mono (by decide))) (fun x hx => pl_outside_to_stay x.1 x.2.1 x.2.2 hx.1 hx.2)
  have g_outside_to_stay : mg ("outside_to_stay" : Str) = some (.ref (He.ga K "outside_to_stay")) := He.glo_ok X G (c.fact 46 (f := .glo "outside_to_stay") rfl)
  have C_outside_to_stay : Cal P0 w K mg base 10 "outside_to_stay" ["race", "color", "first"] (Soutside_to_stay K) := ⟨_, _, O_outside_to_stay, g_outside_to_stay, F_outside_to_stay.kp, F_outside_to_stay.bindsN fun _ _ _ _ _ _ us hl => match us, hl with | [_, _, _], _ => rfl⟩
  have cn_outside_to_stay_2_1_0 : CalN P0 w K mg base 10 "outside_to_stay" 0 ["first", "color", "race"] [2, 1, 0] (Soutside_to_stay K) := ⟨_, _, _, O_outside_to_stay, g_outside_to_stay, F_outside_to_stay.kp, kbN F_outside_to_stay 0 _ [2, 1, 0] fun _ _ _ _ _ _ us ws h1 h2 => match us, ws, h1, h2 with | [], [_, _, _], _, _ => rfl⟩
  have O__law_cell : FnOk P0 w K mg base CX0 2 _ fd__law_cell ["script", "k"] (S_law_cell K) := fn_pf (k := 1) F__law_cell sc__law_cell (fun _ => rfl) (dv__law_cell (k := 0) mo) (fun x hx => pl_law_cell x.1 x.2 hx)
  have g__law_cell : mg ("_law_cell" : Str) = some (.ref (He.ga K "_law_cell")) := He.glo_ok X G (c.fact 47 (f := .glo "_law_cell") rfl)
  have C__law_cell : Cal P0 w K mg base 2 "_law_cell" ["script", "k"] (S_law_cell K) := ⟨_, _, O__law_cell, g__law_cell, F__law_cell.kp, F__law_cell.bindsN fun _ _ _ _ _ _ us hl => match us, hl with | [_, _], _ => rfl⟩
  have O__law_box : FnOk P0 w K mg base CX0 2 _ fd__law_box ["great"] (S_law_box K) := fn_pc (k := 1) F__law_box sc__law_box (fun _ => rfl) (dv__law_box (k := 0) mo) (fun i _ => pl_law_box i)
  have g__law_box : mg ("_law_box" : Str) = some (.ref (He.ga K "_law_box")) := He.glo_ok X G (c.fact 48 (f := .glo "_law_box") rfl)
  have C__law_box : Cal P0 w K mg base 2 "_law_box" ["great"] (S_law_box K) := ⟨_, _, O__law_box, g__law_box, F__law_box.kp, F__law_box.bindsN fun _ _ _ _ _ _ us hl => match us, hl with | [_], _ => rfl⟩
  have O__law_take : FnOk P0 w K mg base CX0 2 _ fd__law_take ["box", "many"] (S_law_take K) := fn_bf (k := 1) F__law_take sc__law_take (fun _ => rfl) (dv__law_take (k := 0) mo) (fun m n c hm hb hn => pl_law_take m n c hm hb hn)
  have g__law_take : mg ("_law_take" : Str) = some (.ref (He.ga K "_law_take")) := He.glo_ok X G (c.fact 49 (f := .glo "_law_take") rfl)
  have C__law_take : Cal P0 w K mg base 2 "_law_take" ["box", "many"] (S_law_take K) := ⟨_, _, O__law_take, g__law_take, F__law_take.kp, F__law_take.bindsN fun _ _ _ _ _ _ us hl => match us, hl with | [_, _], _ => rfl⟩
  have O__law_pick : FnOk P0 w K mg base CX0 4 _ fd__law_pick ["box", "items"] (S_law_pick K) := fn_bf (k := 3) F__law_pick sc__law_pick (fun _ => rfl) (dv__law_pick (k := 2) mo (C__law_take.mono (by decide))) (fun x n c hp hb hn => pl_law_pick x.1 x.2 n c hp hb hn)
  have g__law_pick : mg ("_law_pick" : Str) = some (.ref (He.ga K "_law_pick")) := He.glo_ok X G (c.fact 50 (f := .glo "_law_pick") rfl)
  have C__law_pick : Cal P0 w K mg base 4 "_law_pick" ["box", "items"] (S_law_pick K) := ⟨_, _, O__law_pick, g__law_pick, F__law_pick.kp, F__law_pick.bindsN fun _ _ _ _ _ _ us hl => match us, hl with | [_, _], _ => rfl⟩
  have O__law_whole : FnOk P0 w K mg base CX0 2 _ fd__law_whole ["value"] (S_law_whole K) := fn_pf (k := 1) F__law_whole sc__law_whole (fun _ => rfl) (dv__law_whole (k := 0) mo) (fun p hp => pl_law_whole p hp)
  have g__law_whole : mg ("_law_whole" : Str) = some (.ref (He.ga K "_law_whole")) := He.glo_ok X G (c.fact 51 (f := .glo "_law_whole") rfl)
  have C__law_whole : Cal P0 w K mg base 2 "_law_whole" ["value"] (S_law_whole K) := ⟨_, _, O__law_whole, g__law_whole, F__law_whole.kp, F__law_whole.bindsN fun _ _ _ _ _ _ us hl => match us, hl with | [_], _ => rfl⟩
  have O__law_isN : FnOk P0 w K mg base CX0 0 (He.fAd K d__law_is.at_) fd__law_is ["given", "due"] (PF K (fun p : Z.P => [p, p]) (fun _ => False) (fun _ r => r = .bl true)) := fn_none fun _ h => h
  have g__law_isN : mg ("_law_is" : Str) = some (.ref (He.ga K "_law_is")) := He.glo_ok X G (c.fact 52 (f := .glo "_law_is") rfl)
  have C__law_isN : Cal P0 w K mg base 0 "_law_is" ["given", "due"] (PF K (fun p : Z.P => [p, p]) (fun _ => False) (fun _ r => r = .bl true)) := ⟨_, _, O__law_isN, g__law_isN, F__law_is.kp, F__law_is.bindsN fun _ _ _ _ _ _ us hl => match us, hl with | [_, _], _ => rfl⟩
  have O__law_is0 : FnOk P0 w K mg base CX0 4 _ fd__law_is ["given", "due"] (S_law_is K 0) := fn_pf (k := 3) F__law_is sc__law_is (fun _ => rfl) (dv__law_is (k := 2) mo (C__law_whole.mono (by decide)) (C__law_isN.mono (by decide))) (fun p hp => pl_law_is0 _ p hp)
  have g__law_is0 : mg ("_law_is" : Str) = some (.ref (He.ga K "_law_is")) := He.glo_ok X G (c.fact 52 (f := .glo "_law_is") rfl)
  have C__law_is0 : Cal P0 w K mg base 4 "_law_is" ["given", "due"] (S_law_is K 0) := ⟨_, _, O__law_is0, g__law_is0, F__law_is.kp, F__law_is.bindsN fun _ _ _ _ _ _ us hl => match us, hl with | [_, _], _ => rfl⟩
  have O__law_is1 : FnOk P0 w K mg base CX0 6 _ fd__law_is ["given", "due"] (S_law_is K 1) := fn_pf (k := 5) F__law_is sc__law_is (fun _ => rfl) (dv__law_is (k := 4) mo (C__law_whole.mono (by decide)) (C__law_is0.mono (by decide))) (fun p hp => pl_law_is 0 p hp)
  have g__law_is1 : mg ("_law_is" : Str) = some (.ref (He.ga K "_law_is")) := He.glo_ok X G (c.fact 52 (f := .glo "_law_is") rfl)
  have C__law_is1 : Cal P0 w K mg base 6 "_law_is" ["given", "due"] (S_law_is K 1) := ⟨_, _, O__law_is1, g__law_is1, F__law_is.kp, F__law_is.bindsN fun _ _ _ _ _ _ us hl => match us, hl with | [_, _], _ => rfl⟩
  have O__law_is2 : FnOk P0 w K mg base CX0 8 _ fd__law_is ["given", "due"] (S_law_is K 2) := fn_pf (k := 7) F__law_is sc__law_is (fun _ => rfl) (dv__law_is (k := 6) mo (C__law_whole.mono (by decide)) (C__law_is1.mono (by decide))) (fun p hp => pl_law_is 1 p hp)
  have g__law_is2 : mg ("_law_is" : Str) = some (.ref (He.ga K "_law_is")) := He.glo_ok X G (c.fact 52 (f := .glo "_law_is") rfl)
  have C__law_is2 : Cal P0 w K mg base 8 "_law_is" ["given", "due"] (S_law_is K 2) := ⟨_, _, O__law_is2, g__law_is2, F__law_is.kp, F__law_is.bindsN fun _ _ _ _ _ _ us hl => match us, hl with | [_, _], _ => rfl⟩
  have O__law_is : FnOk P0 w K mg base CX0 10 _ fd__law_is ["given", "due"] (S_law_is K 3) := fn_pf (k := 9) F__law_is sc__law_is (fun _ => rfl) (dv__law_is (k := 8) mo (C__law_whole.mono (by decide)) (C__law_is2.mono (by decide))) (fun p hp => pl_law_is 2 p hp)
  have g__law_is : mg ("_law_is" : Str) = some (.ref (He.ga K "_law_is")) := He.glo_ok X G (c.fact 52 (f := .glo "_law_is") rfl)
  have C__law_is : Cal P0 w K mg base 10 "_law_is" ["given", "due"] (S_law_is K 3) := ⟨_, _, O__law_is, g__law_is, F__law_is.kp, F__law_is.bindsN fun _ _ _ _ _ _ us hl => match us, hl with | [_, _], _ => rfl⟩
  have O__law_total : FnOk P0 w K mg base CX0 2 _ fd__law_total ["race", "color"] (S_law_total K) := fn_pf (k := 1) F__law_total sc__law_total (fun _ => rfl) (dv__law_total (k := 0) mo) (fun x hx => pl__law_total x.1 x.2 hx)
  have g__law_total : mg ("_law_total" : Str) = some (.ref (He.ga K "_law_total")) := He.glo_ok X G (c.fact 53 (f := .glo "_law_total") rfl)
  have C__law_total : Cal P0 w K mg base 2 "_law_total" ["race", "color"] (S_law_total K) := ⟨_, _, O__law_total, g__law_total, F__law_total.kp, F__law_total.bindsN fun _ _ _ _ _ _ us hl => match us, hl with | [_, _], _ => rfl⟩
  have O__law_need : FnOk P0 w K mg base CX0 2 _ fd__law_need ["race", "color"] (S_law_need K) := fn_pf (k := 1) F__law_need sc__law_need (fun _ => rfl) (dv__law_need (k := 0) mo) (fun x hx => pl__law_need x.1 x.2 hx.1 hx.2)
  have g__law_need : mg ("_law_need" : Str) = some (.ref (He.ga K "_law_need")) := He.glo_ok X G (c.fact 54 (f := .glo "_law_need") rfl)
  have C__law_need : Cal P0 w K mg base 2 "_law_need" ["race", "color"] (S_law_need K) := ⟨_, _, O__law_need, g__law_need, F__law_need.kp, F__law_need.bindsN fun _ _ _ _ _ _ us hl => match us, hl with | [_, _], _ => rfl⟩
  have O__law_lead : FnOk P0 w K mg base CX0 4 _ fd__law_lead ["race", "color"] (S_law_lead K) := fn_pf (k := 3) F__law_lead sc__law_lead (fun _ => rfl) (dv__law_lead (k := 2) mo (C__law_need.mono (by decide))) (fun x hx => pl__law_lead x.1 x.2 hx.1 hx.2)
  have g__law_lead : mg ("_law_lead" : Str) = some (.ref (He.ga K "_law_lead")) := He.glo_ok X G (c.fact 55 (f := .glo "_law_lead") rfl)
  have C__law_lead : Cal P0 w K mg base 4 "_law_lead" ["race", "color"] (S_law_lead K) := ⟨_, _, O__law_lead, g__law_lead, F__law_lead.kp, F__law_lead.bindsN fun _ _ _ _ _ _ us hl => match us, hl with | [_, _], _ => rfl⟩
  have O__law_result : FnOk P0 w K mg base CX0 6 _ fd__law_result ["race", "first"] (S_law_result K) := fn_pf (k := 5) F__law_result sc__law_result (fun _ => rfl) (dv__law_result (k := 4) mo (C__law_lead.mono (by decide))) (fun x hx => pl__law_result x.1 x.2 hx.1 hx.2)
  have g__law_result : mg ("_law_result" : Str) = some (.ref (He.ga K "_law_result")) := He.glo_ok X G (c.fact 56 (f := .glo "_law_result") rfl)
  have C__law_result : Cal P0 w K mg base 6 "_law_result" ["race", "first"] (S_law_result K) := ⟨_, _, O__law_result, g__law_result, F__law_result.kp, F__law_result.bindsN fun _ _ _ _ _ _ us hl => match us, hl with | [_, _], _ => rfl⟩
  have O__law_words : FnOk P0 w K mg base CX0 4 _ fd__law_words ["race", "color"] (S_law_words K) := fn_pc (k := 3) F__law_words sc__law_words (fun _ => rfl) (dv__law_words (k := 2) mo (C__law_total.mono (by decide))) (fun x hx => pl__law_words x.1 x.2 hx)
  have g__law_words : mg ("_law_words" : Str) = some (.ref (He.ga K "_law_words")) := He.glo_ok X G (c.fact 57 (f := .glo "_law_words") rfl)
  have C__law_words : Cal P0 w K mg base 4 "_law_words" ["race", "color"] (S_law_words K) := ⟨_, _, O__law_words, g__law_words, F__law_words.kp, F__law_words.bindsN fun _ _ _ _ _ _ us hl => match us, hl with | [_, _], _ => rfl⟩
  have O__law_behind : FnOk P0 w K mg base CX0 4 _ fd__law_behind ["race", "color", "word"] (S_law_behind K) := fn_pf (k := 3) F__law_behind sc__law_behind (fun _ => rfl) (dv__law_behind (k := 2) mo (C__law_total.mono (by decide))) (fun x hx => pl__law_behind x.1 x.2.1 x.2.2 hx.1 hx.2)
  have g__law_behind : mg ("_law_behind" : Str) = some (.ref (He.ga K "_law_behind")) := He.glo_ok X G (c.fact 58 (f := .glo "_law_behind") rfl)
  have C__law_behind : Cal P0 w K mg base 4 "_law_behind" ["race", "color", "word"] (S_law_behind K) := ⟨_, _, O__law_behind, g__law_behind, F__law_behind.kp, F__law_behind.bindsN fun _ _ _ _ _ _ us hl => match us, hl with | [_, _, _], _ => rfl⟩
  have O__law_value : FnOk P0 w K mg base CX0 2 _ fd__law_value ["result", "color"] (S_law_value K) := fn_pf (k := 1) F__law_value sc__law_value (fun _ => rfl) (dv__law_value (k := 0) mo) (fun x _ => pl__law_value x.1 x.2)
  have g__law_value : mg ("_law_value" : Str) = some (.ref (He.ga K "_law_value")) := He.glo_ok X G (c.fact 59 (f := .glo "_law_value") rfl)
  have C__law_value : Cal P0 w K mg base 2 "_law_value" ["result", "color"] (S_law_value K) := ⟨_, _, O__law_value, g__law_value, F__law_value.kp, F__law_value.bindsN fun _ _ _ _ _ _ us hl => match us, hl with | [_, _], _ => rfl⟩
  have O__law_best_words : FnOk P0 w K mg base CX0 8 _ fd__law_best_words ["race", "color"] (S_law_best_words K) := fn_pc (k := 7) F__law_best_words sc__law_best_words (fun _ => rfl) (dv__law_best_words (k := 6) mo (C__law_words.mono (by decide)) (C__law_behind.mono (by decide)) (C__law_value.mono (by decide)) (C__law_result.mono (by decide))) (fun x hx => pl__law_best_words x.1 x.2 hx.1 hx.2)
  have g__law_best_words : mg ("_law_best_words" : Str) = some (.ref (He.ga K "_law_best_words")) := He.glo_ok X G (c.fact 60 (f := .glo "_law_best_words") rfl)
  have C__law_best_words : Cal P0 w K mg base 8 "_law_best_words" ["race", "color"] (S_law_best_words K) := ⟨_, _, O__law_best_words, g__law_best_words, F__law_best_words.kp, F__law_best_words.bindsN fun _ _ _ _ _ _ us hl => match us, hl with | [_, _], _ => rfl⟩
  have O__law_race : FnOk P0 w K mg base CX0 8 _ fd__law_race ["race", "by_name"] (S_law_race K) := fn_pf (k := 7) F__law_race sc__law_race (fun _ => rfl) (dv__law_race (k := 6) mo (CM_Race.mono (by decide)) (cmn_Race_0_5_4_3_2_1.mono (by decide))) (fun x hx => pl__law_race x.1 x.2 hx)
  have g__law_race : mg ("_law_race" : Str) = some (.ref (He.ga K "_law_race")) := He.glo_ok X G (c.fact 61 (f := .glo "_law_race") rfl)
  have C__law_race : Cal P0 w K mg base 8 "_law_race" ["race", "by_name"] (S_law_race K) := ⟨_, _, O__law_race, g__law_race, F__law_race.kp, F__law_race.bindsN fun _ _ _ _ _ _ us hl => match us, hl with | [_, _], _ => rfl⟩
  have O__law_five : FnOk P0 w K mg base CX0 2 _ fd__law_five ["told"] (S_law_five K) := fn_pf (k := 1) F__law_five sc__law_five (fun _ => rfl) (dv__law_five (k := 0) mo) (fun n _ => pl__law_five kf n)
  have g__law_five : mg ("_law_five" : Str) = some (.ref (He.ga K "_law_five")) := He.glo_ok X G (c.fact 62 (f := .glo "_law_five") rfl)
  have C__law_five : Cal P0 w K mg base 2 "_law_five" ["told"] (S_law_five K) := ⟨_, _, O__law_five, g__law_five, F__law_five.kp, F__law_five.bindsN fun _ _ _ _ _ _ us hl => match us, hl with | [_], _ => rfl⟩
  have O__law_far : FnOk P0 w K mg base CX0 4 _ fd__law_far ["box"] (S_law_far K) := fn_bf (k := 3) F__law_far sc__law_far (fun _ => rfl) (dv__law_far (k := 2) mo (C__law_take.mono (by decide))) (fun _ n c _ hb hn => pl__law_far n c hb hn)
  have g__law_far : mg ("_law_far" : Str) = some (.ref (He.ga K "_law_far")) := He.glo_ok X G (c.fact 63 (f := .glo "_law_far") rfl)
  have C__law_far : Cal P0 w K mg base 4 "_law_far" ["box"] (S_law_far K) := ⟨_, _, O__law_far, g__law_far, F__law_far.kp, F__law_far.bindsN fun _ _ _ _ _ _ us hl => match us, hl with | [_], _ => rfl⟩
  have O__law_near_race : FnOk P0 w K mg base CX0 6 _ fd__law_near_race ["box", "far"] (S_law_near_race K) := fn_bf (k := 5) F__law_near_race sc__law_near_race (fun _ => rfl) (dv__law_near_race (k := 4) mo (C__law_far.mono (by decide)) (C__law_take.mono (by decide)) (C__law_lead.mono (by decide)) (C__law_total.mono (by decide))) (fun r n c _ hb hn => pl__law_near_race r n c hb hn)
  have g__law_near_race : mg ("_law_near_race" : Str) = some (.ref (He.ga K "_law_near_race")) := He.glo_ok X G (c.fact 64 (f := .glo "_law_near_race") rfl)
  have C__law_near_race : Cal P0 w K mg base 6 "_law_near_race" ["box", "far"] (S_law_near_race K) := ⟨_, _, O__law_near_race, g__law_near_race, F__law_near_race.kp, F__law_near_race.bindsN fun _ _ _ _ _ _ us hl => match us, hl with | [_, _], _ => rfl⟩
  have O__law_counts_right : FnOk P0 w K mg base CX0 12 _ fd__law_counts_right ["race", "own", "by_name"] (S_law_counts_right K) := fn_pf (k := 11) F__law_counts_right sc__law_counts_right (fun _ => rfl) (dv__law_counts_right (k := 10) mo (C_race_liberties.mono (by decide)) (C_race_lead.mono (by decide)) (C_race_need.mono (by decide)) (C_race_result.mono (by decide)) (C__law_is.mono (by decide)) (C__law_total.mono (by decide)) (C__law_need.mono (by decide)) (C__law_lead.mono (by decide)) (C__law_result.mono (by decide)) (C_race_moves.mono (by decide)) (C__law_words.mono (by decide)) (C_race_after.mono (by decide)) (C__law_behind.mono (by decide)) (C__law_five.mono (by decide)) (cn_race_need_1_0.mono (by decide)) (cn_race_result_1_0.mono (by decide)) (cn_race_liberties_1_0.mono (by decide)) (cn_race_lead_1_0.mono (by decide)) (cn_race_moves_1_0.mono (by decide)) (cn_race_after_2_1_0.mono (by decide))) (fun x hx => pl__law_counts_right kf x.1 x.2 hx)
  have g__law_counts_right : mg ("_law_counts_right" : Str) = some (.ref (He.ga K "_law_counts_right")) := He.glo_ok X G (c.fact 65 (f := .glo "_law_counts_right") rfl)
  have C__law_counts_right : Cal P0 w K mg base 12 "_law_counts_right" ["race", "own", "by_name"] (S_law_counts_right K) := ⟨_, _, O__law_counts_right, g__law_counts_right, F__law_counts_right.kp, F__law_counts_right.bindsN fun _ _ _ _ _ _ us hl => match us, hl with | [_, _, _], _ => rfl⟩
  have O__law_best_right : FnOk P0 w K mg base CX0 16 _ fd__law_best_right ["race", "own", "by_name"] (S_law_best_right K) := fn_pf (k := 15) F__law_best_right sc__law_best_right (fun _ => rfl) (dv__law_best_right (k := 14) mo (C__law_best_words.mono (by decide)) (C_best_race_moves.mono (by decide)) (C__law_is.mono (by decide)) (cn_best_race_moves_1_0.mono (by decide))) (fun x hx => pl__law_best_right x.1 x.2 hx)
  have g__law_best_right : mg ("_law_best_right" : Str) = some (.ref (He.ga K "_law_best_right")) := He.glo_ok X G (c.fact 66 (f := .glo "_law_best_right") rfl)
  have C__law_best_right : Cal P0 w K mg base 16 "_law_best_right" ["race", "own", "by_name"] (S_law_best_right K) := ⟨_, _, O__law_best_right, g__law_best_right, F__law_best_right.kp, F__law_best_right.bindsN fun _ _ _ _ _ _ us hl => match us, hl with | [_, _, _], _ => rfl⟩
  have O__law_missing_right : FnOk P0 w K mg base CX0 12 _ fd__law_missing_right ["race", "own", "by_name"] (S_law_missing_right K) := fn_pf (k := 11) F__law_missing_right sc__law_missing_right (fun _ => rfl) (dv__law_missing_right (k := 10) mo (C__law_lead.mono (by decide)) (C_outside_to_take.mono (by decide)) (C_outside_to_stay.mono (by decide)) (C__law_is.mono (by decide)) (C_race_result.mono (by decide)) (C__law_race.mono (by decide)) (C__law_result.mono (by decide)) (cn_outside_to_stay_2_1_0.mono (by decide)) (cn_outside_to_take_2_1_0.mono (by decide))) (fun x hx => pl__law_missing_right x.1 x.2 hx)
  have g__law_missing_right : mg ("_law_missing_right" : Str) = some (.ref (He.ga K "_law_missing_right")) := He.glo_ok X G (c.fact 67 (f := .glo "_law_missing_right") rfl)
  have C__law_missing_right : Cal P0 w K mg base 12 "_law_missing_right" ["race", "own", "by_name"] (S_law_missing_right K) := ⟨_, _, O__law_missing_right, g__law_missing_right, F__law_missing_right.kp, F__law_missing_right.bindsN fun _ _ _ _ _ _ us hl => match us, hl with | [_, _, _], _ => rfl⟩
  have O__law_equal_right : FnOk P0 w K mg base CX0 12 _ fd__law_equal_right ["box", "race", "own", "by_name"] (S_law_equal_right K) := fn_bf (k := 11) F__law_equal_right sc__law_equal_right (fun _ => rfl) (dv__law_equal_right (k := 10) mo (C__law_is.mono (by decide)) (C__law_race.mono (by decide)) (C__law_pick.mono (by decide)) (CE_Race.mono (by decide))) (fun x N c w hb hn => pl__law_equal_right kf x.1 x.2 N c w hb hn)
  have g__law_equal_right : mg ("_law_equal_right" : Str) = some (.ref (He.ga K "_law_equal_right")) := He.glo_ok X G (c.fact 68 (f := .glo "_law_equal_right") rfl)
  have C__law_equal_right : Cal P0 w K mg base 12 "_law_equal_right" ["box", "race", "own", "by_name"] (S_law_equal_right K) := ⟨_, _, O__law_equal_right, g__law_equal_right, F__law_equal_right.kp, F__law_equal_right.bindsN fun _ _ _ _ _ _ us hl => match us, hl with | [_, _, _, _], _ => rfl⟩
  exact fn_pf (k := 17) F_law sc_law (fun _ => rfl) (dv_law (k := 16) mo (C__law_box.mono (by decide)) (C__law_cell.mono (by decide)) (C__law_take.mono (by decide)) (C__law_near_race.mono (by decide)) (C__law_far.mono (by decide)) (C__law_race.mono (by decide)) (C__law_is.mono (by decide)) (C__law_five.mono (by decide)) (C__law_counts_right.mono (by decide)) (C__law_best_right.mono (by decide)) (C__law_missing_right.mono (by decide)) (C__law_equal_right.mono (by decide))) (fun ns hl => pl_law kf ns hl)
end R35
open PySem PySem.W PySem.Calls PyProof.Rows
theorem PySem.Challenge.cw_twoeyes_k35_races_far_holds : PySem.Challenge.rw_twoeyes_k35_races_far.Holds := by
  w_on; o_law
  refine HandSHeadRun.head_any (r := OpenLaw.row PySem.Challenge.rw_twoeyes_k35_races_far) (q := view (OpenLaw.row PySem.Challenge.rw_twoeyes_k35_races_far).prog [72]) (H := R35.hk) (ob := R35.ob) (M := 12000) (loose := R35.loose) (d := HandSHeadRun.topDef (OpenLaw.row PySem.Challenge.rw_twoeyes_k35_races_far).prog 72) (kwd := []) R35.ob_eq
    (by kernel_rfl) (fun s => by kernel_rfl) R35.run (by kernel_rfl) (by kernel_rfl) (by kernel_rfl) (by rfl) (by first | assumption | decide +kernel) (by decide +kernel) ⟨rfl, rfl, rfl, rfl, rfl, by decide +kernel⟩ ?hw ?hc
  case hw => w_witness2
  case hc =>
    refine L2.walk_ofE (l := PySem.Challenge.rw_twoeyes_k35_races_far) (n := 63) (k := 18) (x := "script") (CX := L2.CX0) rfl (by decide) (by kernel_rfl) ⟨rfl, by decide, by decide⟩ ?F (fun _ _ _ _ z => z)
    intro w mg fa h Y G hmg0
    obtain ⟨K, KX, m, c⟩ := Y
    have hmg : mg ("law" : PySem.Str) = some (.ref fa) := by
      have e : (HandSHeadRun.topDef (OpenLaw.row PySem.Challenge.rw_twoeyes_k35_races_far).prog 72).name = ("law" : PySem.Str) := by kernel_rfl
      rw [← e]
      exact hmg0
    obtain ⟨fd, hb, hF⟩ := R35.facts (P0 := (PySem.Challenge.rw_twoeyes_k35_races_far).prog) (w := w) KX G hmg m c
    exact ⟨K, fd, R35.Slaw K, KX, hb, fun H a ns hl hO hS => ⟨fun _ => False, ns, fun _ z => z.elim, .cons (hS.elim (fun h => .scr h (fun z => z) (Z.Rps.ofInts ns)) (fun h => .scrK h (Z.Rps.ofInts ns))) .nil, hl, fun v p H' _ rp e => by subst e; cases rp; rfl⟩, hF⟩
