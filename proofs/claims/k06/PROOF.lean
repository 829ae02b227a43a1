import PyProof.Rows.All
import Wide.All
import OpenK.AllK
import Wide.FinOn
import HandS.Head0
import HandS.Head1
import HandS.Head2
import HandS.HeadEnd
import HandS.HeadHook4
import HandS.HeadWalk
import HandS.HeadNt
import HandS.NestedK
import KE.KStateDown
import HandS.Lambda
import HandS.ExcIs
import KE.SortData
import HandS.ForMost
import HandS.Exc
import HandS.IsInst
import HandS.Style
import HandS.ExcOwn
import HandS.TryOnly
import HandS.WordsExc
import KE.KDictZip
import HandS.Deep
import HandS.DictEq
import HandS.Conv
import KE.DataCmp
import HandS.More
import HandS.SetFor
import HandS.Strs
import KE.KeyNested
import PySem.Challenge.RW_sandglasses_k06_whole_spans
set_option Elab.async false
set_option linter.all false
set_option maxRecDepth 100000
/-! DL1: data, what stands for data, regions of a heap, an environment of data over the slots. -/
namespace DL
open PySem L2

inductive D where
  | non | bl (b : Bool) | int (i : Int) | str (x : Str) | lst (xs : List D) | tup (xs : List D) | emp | obj (C : Addr) (ns : List Str) (ds : List D)

mutual
inductive Rep (R : Hp) : V → D → Prop
  | non : Rep R .non .non
  | bl (b : Bool) : Rep R (.bl b) (.bl b)
  | int (i : Int) : Rep R (.int i) (.int i)
  | str (x : Str) : Rep R (.str x) (.str x)
  | lst {a : Addr} {vs : List V} {ds : List D} : R a = some (.lst vs) → RepL R vs ds → Rep R (.ref a) (.lst ds)
  | tup {a : Addr} {vs : List V} {ds : List D} : R a = some (.tup vs) → RepL R vs ds → Rep R (.ref a) (.tup ds)
  | emp {a : Addr} : R a = some (.dK []) → Rep R (.ref a) .emp
  | obj {a C dx : Addr} {fs : List (Str × V)} {ns : List Str} {ds : List D} : R a = some (.ins C dx fs) → fs.map (·.1) = ns → RepL R (fs.map (·.2)) ds → Rep R (.ref a) (.obj C ns ds)
inductive RepL (R : Hp) : List V → List D → Prop
  | nil : RepL R [] []
  | cons {v : V} {vs : List V} {d : D} {ds : List D} : Rep R v d → RepL R vs ds → RepL R (v :: vs) (d :: ds)
end

/-- all that stands stays -/
abbrev Ex (H H' : Hp) : Prop := ∀ a o, H a = some o → H' a = some o
theorem Ex.refl (H : Hp) : Ex H H := fun _ _ h => h
theorem Ex.trans {A B C : Hp} (h : Ex A B) (k : Ex B C) : Ex A C := fun a o e => k a o (h a o e)
theorem Ex.new {H : Hp} {p : Addr} {o : HO} (h : H p = none) : Ex H (upd H p o) := fun a u e => by
  rw [upd_ne (ne_of_none e h)]; exact e
theorem Ex.free {H H' : Hp} (e : Ex H H') {p : Addr} (h : H' p = none) : H p = none := by
  cases q : H p with
  | none => rfl
  | some o => rw [e p o q] at h; cases h

mutual
theorem Rep.mono {R R' : Hp} (e : Ex R R') : ∀ {v : V} {d : D}, Rep R v d → Rep R' v d
  | _, _, .non => .non
  | _, _, .bl b => .bl b
  | _, _, .int i => .int i
  | _, _, .str x => .str x
  | _, _, .lst h hs => .lst (e _ _ h) (RepL.mono e hs)
  | _, _, .tup h hs => .tup (e _ _ h) (RepL.mono e hs)
  | _, _, .emp h => .emp (e _ _ h)
  | _, _, .obj h n hs => .obj (e _ _ h) n (RepL.mono e hs)
theorem RepL.mono {R R' : Hp} (e : Ex R R') : ∀ {vs : List V} {ds : List D}, RepL R vs ds → RepL R' vs ds
  | _, _, .nil => .nil
  | _, _, .cons h hs => .cons (Rep.mono e h) (RepL.mono e hs)
end
theorem RepL.length {R : Hp} : ∀ {vs : List V} {ds : List D}, RepL R vs ds → vs.length = ds.length
  | _, _, .nil => rfl
  | _, _, .cons _ hs => congrArg (· + 1) (RepL.length hs)
theorem RepL.append {R : Hp} : ∀ {vs ws : List V} {ds es : List D}, RepL R vs ds → RepL R ws es → RepL R (vs ++ ws) (ds ++ es)
  | _, _, _, _, .nil, k => k
  | _, _, _, _, .cons h hs, k => .cons h (RepL.append hs k)
theorem RepL.get {R : Hp} : ∀ {vs : List V} {ds : List D} {i : Nat} {v : V}, RepL R vs ds → vs[i]? = some v → ∃ d, ds[i]? = some d ∧ Rep R v d
  | _, _, _, _, .nil, e => by simp at e
  | _, _, 0, _, .cons h _, e => by simp at e; subst e; exact ⟨_, rfl, h⟩
  | _, _, i + 1, _, .cons _ hs, e => by
    obtain ⟨d, e1, h⟩ := RepL.get (i := i) hs (by simpa using e)
    exact ⟨d, by simpa using e1, h⟩
theorem RepL.getD {R : Hp} : ∀ {vs : List V} {ds : List D} {i : Nat} {d : D}, RepL R vs ds → ds[i]? = some d → ∃ v, vs[i]? = some v ∧ Rep R v d
  | _, _, _, _, .nil, e => by simp at e
  | _, _, 0, _, .cons h _, e => by simp at e; subst e; exact ⟨_, rfl, h⟩
  | _, _, i + 1, _, .cons _ hs, e => by
    obtain ⟨v, e1, h⟩ := RepL.getD (i := i) hs (by simpa using e)
    exact ⟨v, by simpa using e1, h⟩
theorem RepL.take {R : Hp} : ∀ {vs : List V} {ds : List D} (n : Nat), RepL R vs ds → RepL R (vs.take n) (ds.take n)
  | _, _, 0, _ => .nil
  | _, _, _ + 1, .nil => .nil
  | _, _, n + 1, .cons h hs => .cons h (RepL.take n hs)
theorem RepL.drop {R : Hp} : ∀ {vs : List V} {ds : List D} (n : Nat), RepL R vs ds → RepL R (vs.drop n) (ds.drop n)
  | _, _, 0, h => h
  | _, _, _ + 1, .nil => .nil
  | _, _, n + 1, .cons _ hs => RepL.drop n hs
theorem RepL.set {R : Hp} {v : V} {d : D} (h : Rep R v d) : ∀ {vs : List V} {ds : List D} (i : Nat), RepL R vs ds → RepL R (vs.set i v) (ds.set i d)
  | _, _, _, .nil => .nil
  | _, _, 0, .cons _ hs => .cons h hs
  | _, _, i + 1, .cons k hs => .cons k (RepL.set h i hs)
theorem RepL.reverse {R : Hp} : ∀ {vs : List V} {ds : List D}, RepL R vs ds → RepL R vs.reverse ds.reverse
  | _, _, .nil => .nil
  | _, _, .cons h hs => by
    rw [List.reverse_cons, List.reverse_cons]
    exact RepL.append (RepL.reverse hs) (.cons h .nil)
theorem RepL.of {R : Hp} : ∀ {vs : List V} {ds : List D}, vs.length = ds.length → (∀ (i : Nat) (v : V) (d : D), vs[i]? = some v → ds[i]? = some d → Rep R v d) → RepL R vs ds
  | [], [], _, _ => .nil
  | [], _ :: _, e, _ => by simp at e
  | _ :: _, [], e, _ => by simp at e
  | v :: vs, d :: ds, e, h => .cons (h 0 v d rfl rfl) (RepL.of (by simpa using e) fun i v d e1 e2 => h (i + 1) v d (by simpa using e1) (by simpa using e2))

/-- numbers -/
abbrev dI (ns : List Int) : D := .lst (ns.map D.int)
theorem RepL.ints {R : Hp} : ∀ (ns : List Int), RepL R (ns.map V.int) (ns.map D.int)
  | [] => .nil
  | n :: ns => .cons (.int n) (RepL.ints ns)
theorem RepL.ints_inv {R : Hp} : ∀ {vs : List V} {ns : List Int}, RepL R vs (ns.map D.int) → vs = ns.map V.int
  | _, [], h => by cases h; rfl
  | _, n :: ns, h => by
    cases h with
    | cons h hs =>
      cases h
      rw [RepL.ints_inv hs]; rfl
theorem RepL.bls {R : Hp} : ∀ (ns : List Bool), RepL R (ns.map V.bl) (ns.map D.bl)
  | [] => .nil
  | n :: ns => .cons (.bl n) (RepL.bls ns)
theorem RepL.bls_inv {R : Hp} : ∀ {vs : List V} {ns : List Bool}, RepL R vs (ns.map D.bl) → vs = ns.map V.bl
  | _, [], h => by cases h; rfl
  | _, n :: ns, h => by
    cases h with
    | cons h hs =>
      cases h
      rw [RepL.bls_inv hs]; rfl

/-- scalars stand anywhere -/
def sc : D → Option V
  | .non => some .non
  | .bl b => some (.bl b)
  | .int i => some (.int i)
  | .str x => some (.str x)
  | _ => none
theorem sc_rep {d : D} {v : V} (h : sc d = some v) (R : Hp) : Rep R v d := by
  cases d <;> simp [sc] at h <;> subst h
  · exact .non
  · exact .bl _
  · exact .int _
  · exact .str _
theorem rep_sc {d : D} {v w : V} {R : Hp} (h : sc d = some v) (r : Rep R w d) : w = v := by
  cases r <;> simp [sc] at h <;> exact h

/-! ### one value, one datum -/
mutual
theorem Rep.inj {R : Hp} : ∀ {v : V} {d e : D}, Rep R v d → Rep R v e → d = e
  | _, _, _, .non, k => by cases k; rfl
  | _, _, _, .bl _, k => by cases k; rfl
  | _, _, _, .int _, k => by cases k; rfl
  | _, _, _, .str _, k => by cases k; rfl
  | _, _, _, .lst h hs, k => by
    cases k with
    | lst h' hs' =>
      rw [h] at h'; cases h'
      rw [RepL.inj hs hs']
    | tup h' hs' => rw [h] at h'; cases h'
    | emp h' => rw [h] at h'; cases h'
    | obj h' => rw [h] at h'; cases h'
  | _, _, _, .tup h hs, k => by
    cases k with
    | tup h' hs' =>
      rw [h] at h'; cases h'
      rw [RepL.inj hs hs']
    | lst h' hs' => rw [h] at h'; cases h'
    | emp h' => rw [h] at h'; cases h'
    | obj h' => rw [h] at h'; cases h'
  | _, _, _, .emp h, k => by
    cases k with
    | tup h' hs' => rw [h] at h'; cases h'
    | lst h' hs' => rw [h] at h'; cases h'
    | emp h' => rfl
    | obj h' => rw [h] at h'; cases h'
  | _, _, _, .obj h n hs, k => by
    cases k with
    | tup h' hs' => rw [h] at h'; cases h'
    | lst h' hs' => rw [h] at h'; cases h'
    | emp h' => rw [h] at h'; cases h'
    | obj h' n' hs' =>
      rw [h] at h'; cases h'
      rw [RepL.inj hs hs', ← n, ← n']
theorem RepL.inj {R : Hp} : ∀ {vs : List V} {ds es : List D}, RepL R vs ds → RepL R vs es → ds = es
  | _, _, _, .nil, k => by cases k; rfl
  | _, _, _, .cons h hs, k => by
    cases k with
    | cons h' hs' => rw [Rep.inj h h', RepL.inj hs hs']
end
/-! ### an object does not stand within itself -/
/-- R without l -/
def wo (R : Hp) (l : Addr) : Hp := fun b => if b = l then none else R b
theorem wo_ne {R : Hp} {l a : Addr} (h : a ≠ l) : wo R l a = R a := by unfold wo; rw [if_neg h]
mutual
theorem Rep.wo {R : Hp} {l : Addr} {d0 : D} (h0 : Rep R (.ref l) d0) : ∀ {v : V} {d : D}, Rep R v d → sizeOf d < sizeOf d0 → Rep (wo R l) v d
  | _, _, .non, _ => .non
  | _, _, .bl b, _ => .bl b
  | _, _, .int i, _ => .int i
  | _, _, .str x, _ => .str x
  | _, _, .lst (a := a) (ds := ds) h hs, z => by
    have hn : a ≠ l := fun e => by
      have := Rep.inj h0 (e ▸ Rep.lst h hs)
      rw [this] at z; exact absurd z (Nat.lt_irrefl _)
    exact .lst (by rw [wo_ne hn]; exact h) (RepL.wo h0 hs (by simp only [D.lst.sizeOf_spec] at z; omega))
  | _, _, .tup (a := a) (ds := ds) h hs, z => by
    have hn : a ≠ l := fun e => by
      have := Rep.inj h0 (e ▸ Rep.tup h hs)
      rw [this] at z; exact absurd z (Nat.lt_irrefl _)
    exact .tup (by rw [wo_ne hn]; exact h) (RepL.wo h0 hs (by simp only [D.tup.sizeOf_spec] at z; omega))
  | _, _, .emp (a := a) h, z => by
    have hn : a ≠ l := fun e => by
      have := Rep.inj h0 (e ▸ Rep.emp h)
      rw [this] at z; exact absurd z (Nat.lt_irrefl _)
    exact .emp (by rw [wo_ne hn]; exact h)
  | _, _, .obj (a := a) (ds := ds) h n hs, z => by
    have hn : a ≠ l := fun e => by
      have := Rep.inj h0 (e ▸ Rep.obj h n hs)
      rw [this] at z; exact absurd z (Nat.lt_irrefl _)
    exact .obj (by rw [wo_ne hn]; exact h) n (RepL.wo h0 hs (by simp only [D.obj.sizeOf_spec] at z; omega))
theorem RepL.wo {R : Hp} {l : Addr} {d0 : D} (h0 : Rep R (.ref l) d0) : ∀ {vs : List V} {ds : List D}, RepL R vs ds → sizeOf ds < sizeOf d0 → RepL (wo R l) vs ds
  | _, _, .nil, _ => .nil
  | _, _, .cons (d := d) (ds := ds) h hs, z => by
    simp only [List.cons.sizeOf_spec] at z
    exact .cons (Rep.wo h0 h (by omega)) (RepL.wo h0 hs (by omega))
end

/-! ### regions -/
def hn : Hp := fun _ => none
/-- no table of code objects -/
def ntb : HO → Prop
  | .tbl _ => False
  | _ => True
/-- H without tables -/
def nt (H : Hp) : Hp := fun a => match H a with
  | some (.tbl _) => none
  | o => o
theorem nt_at {H : Hp} {a : Addr} {o : HO} (h : H a = some o) (k : ntb o) : nt H a = some o := by
  unfold nt
  rw [h]
  cases o <;> first | rfl | exact k.elim
theorem nt_some {H : Hp} {a : Addr} {o : HO} (h : nt H a = some o) : H a = some o ∧ ntb o := by
  unfold nt at h
  split at h
  · cases h
  · rename_i hn
    refine ⟨h, ?_⟩
    cases o <;> first | trivial | exact absurd h (hn _)
theorem nt_le {H : Hp} : Ex (nt H) H := fun _ _ h => (nt_some h).1
/-- all that stands, but tables, stays -/
def ExT (H H' : Hp) : Prop := ∀ a o, H a = some o → ntb o → H' a = some o
theorem Ex.t {H H' : Hp} (e : Ex H H') : ExT H H' := fun a o h _ => e a o h
theorem ExT.nt {H H' : Hp} (e : ExT H H') : Ex (nt H) (nt H') := fun a o h => by
  obtain ⟨h1, h2⟩ := nt_some h
  exact nt_at (e a o h1 h2) h2
/-- H without O and without what B has, without tables -/
def reg (O : List Addr) (B H : Hp) : Hp := fun b => if b ∈ O ∨ (B b).isSome = true then none else nt H b
theorem reg_at {O : List Addr} {B H : Hp} {a : Addr} (h1 : a ∉ O) (h2 : B a = none) : reg O B H a = nt H a := by
  unfold reg
  rw [if_neg]
  intro h
  rcases h with h | h
  · exact h1 h
  · rw [h2] at h; cases h
theorem reg_has {O : List Addr} {B H : Hp} {a : Addr} {o : HO} (h1 : a ∉ O) (h2 : B a = none) (h : H a = some o) (k : ntb o) : reg O B H a = some o := by rw [reg_at h1 h2]; exact nt_at h k
theorem reg_some4 {O : List Addr} {B H : Hp} {a : Addr} {o : HO} (h : reg O B H a = some o) : a ∉ O ∧ B a = none ∧ H a = some o ∧ ntb o := by
  unfold reg at h
  split at h
  · cases h
  · rename_i hn
    obtain ⟨k1, k2⟩ := nt_some h
    refine ⟨fun z => hn (.inl z), ?_, k1, k2⟩
    cases q : B a with
    | none => rfl
    | some u => exact absurd (.inr (by rw [q]; rfl)) hn
theorem reg_some {O : List Addr} {B H : Hp} {a : Addr} {o : HO} (h : reg O B H a = some o) : a ∉ O ∧ B a = none ∧ H a = some o := ⟨(reg_some4 h).1, (reg_some4 h).2.1, (reg_some4 h).2.2.1⟩
theorem reg_exT {O O' : List Addr} {B B' H H' : Hp} (hO : ∀ a, a ∈ O' → a ∈ O ∨ H a = none ∨ (B a).isSome = true) (hB : Ex B' B) (hH : ExT H H') : Ex (reg O B H) (reg O' B' H') := fun a o e => by
  obtain ⟨h1, h2, h3, h4⟩ := reg_some4 e
  refine reg_has (fun z => ?_) (Ex.free hB h2) (hH _ _ h3 h4) h4
  rcases hO a z with z | z | z
  · exact h1 z
  · rw [z] at h3; cases h3
  · rw [h2] at z; cases z
theorem reg_ex {O O' : List Addr} {B B' H H' : Hp} (hO : ∀ a, a ∈ O' → a ∈ O ∨ H a = none ∨ (B a).isSome = true) (hB : Ex B' B) (hH : Ex H H') : Ex (reg O B H) (reg O' B' H') := reg_exT hO hB hH.t
theorem reg_le {O : List Addr} {B H : Hp} : Ex (reg O B H) H := fun a o e => (reg_some e).2.2
/-- the region of a mode: 0 all, 1 but the owned, 2 new since the def's entry, 3 new since Hs -/
def rg (m : Nat) (O : List Addr) (H0 Hs H : Hp) : Hp := match m with
  | 0 => nt H
  | 1 => reg O hn H
  | 2 => reg O H0 H
  | _ => reg O Hs H
theorem rg_le {m : Nat} {O : List Addr} {H0 Hs H : Hp} : Ex (rg m O H0 Hs H) H := by
  match m with
  | 0 => exact nt_le
  | 1 => exact reg_le
  | 2 => exact reg_le
  | _ + 3 => exact reg_le
theorem hn_ex {H : Hp} : Ex hn H := fun a o e => by cases e
theorem rg_le0 {m : Nat} {O : List Addr} {H0 Hs H : Hp} : Ex (rg m O H0 Hs H) (nt H) := by
  have k : ∀ B, Ex (reg O B H) (nt H) := fun B a o e => nt_at (reg_some4 e).2.2.1 (reg_some4 e).2.2.2
  match m with
  | 0 => exact Ex.refl _
  | 1 => exact k _
  | 2 => exact k _
  | _ + 3 => exact k _
theorem rg_nt {m : Nat} {O : List Addr} {H0 Hs H : Hp} {a : Addr} {o : HO} (e : rg m O H0 Hs H a = some o) : ntb o := (nt_some (rg_le0 _ _ e)).2
theorem rg_down {m m' : Nat} {O : List Addr} {H0 Hs H : Hp} (h : m' ≤ m) (h0 : Ex H0 Hs) : Ex (rg m O H0 Hs H) (rg m' O H0 Hs H) := by
  match m', m, h with
  | 0, _, _ => exact rg_le0
  | 1, 1, _ => exact Ex.refl _
  | 1, 2, _ => exact reg_ex (fun a h => .inl h) hn_ex (Ex.refl _)
  | 1, _ + 3, _ => exact reg_ex (fun a h => .inl h) hn_ex (Ex.refl _)
  | 2, 2, _ => exact Ex.refl _
  | 2, _ + 3, _ => exact reg_ex (fun a h => .inl h) h0 (Ex.refl _)
  | _ + 3, _ + 3, _ => exact Ex.refl _
/-- the region grows with the heap, with an earlier start, with fewer owned ones -/
theorem rg_exT {m : Nat} {O O' : List Addr} {H0 Hs Hs' H H' : Hp} (hO : ∀ a, a ∈ O' → a ∈ O ∨ H a = none) (hs : Ex Hs' Hs) (hH : ExT H H') : Ex (rg m O H0 Hs H) (rg m O' H0 Hs' H') := by
  have hO' : ∀ (B : Hp) a, a ∈ O' → a ∈ O ∨ H a = none ∨ (B a).isSome = true := fun B a h => (hO a h).imp id .inl
  match m with
  | 0 => exact hH.nt
  | 1 => exact reg_exT (hO' _) (Ex.refl _) hH
  | 2 => exact reg_exT (hO' _) (Ex.refl _) hH
  | _ + 3 => exact reg_exT (hO' _) hs hH
theorem rg_ex {m : Nat} {O O' : List Addr} {H0 Hs Hs' H H' : Hp} (hO : ∀ a, a ∈ O' → a ∈ O ∨ H a = none) (hs : Ex Hs' Hs) (hH : Ex H H') : Ex (rg m O H0 Hs H) (rg m O' H0 Hs' H') := rg_exT hO hs hH.t

mutual
theorem Rep.nt {R : Hp} : ∀ {v : V} {d : D}, Rep R v d → Rep (DL.nt R) v d
  | _, _, .non => .non
  | _, _, .bl b => .bl b
  | _, _, .int i => .int i
  | _, _, .str x => .str x
  | _, _, .lst h hs => .lst (nt_at h trivial) (RepL.nt hs)
  | _, _, .tup h hs => .tup (nt_at h trivial) (RepL.nt hs)
  | _, _, .emp h => .emp (nt_at h trivial)
  | _, _, .obj h n hs => .obj (nt_at h trivial) n (RepL.nt hs)
theorem RepL.nt {R : Hp} : ∀ {vs : List V} {ds : List D}, RepL R vs ds → RepL (DL.nt R) vs ds
  | _, _, .nil => .nil
  | _, _, .cons h hs => .cons (Rep.nt h) (RepL.nt hs)
end
/-! ### what the slots hold -/
inductive SV where
  | any | dat (m : Nat) (d : D) | own (m : Nat) (ds : List D) | raw (v : V)
def owns : St → List SV → List Addr
  | some (.ref l) :: σ, .own _ _ :: Γ => l :: owns σ Γ
  | _ :: σ, _ :: Γ => owns σ Γ
  | _, _ => []
def SOk (H0 : Hp) (O : List Addr) (H : Hp) : Option V → SV → Prop
  | _, .any => True
  | o, .raw v => o = some v
  | o, .dat m d => ∃ v, o = some v ∧ Rep (rg m O H0 H0 H) v d
  | o, .own m ds => ∃ l vs, o = some (.ref l) ∧ H l = some (.lst vs) ∧ H0 l = none ∧ RepL (rg m O H0 H0 H) vs ds
/-- H at as alone -/
def only (as : List Addr) (H : Hp) : Hp := fun a => if a ∈ as then H a else none
theorem only_at {as : List Addr} {H : Hp} {a : Addr} (h : a ∈ as) : only as H a = H a := by unfold only; rw [if_pos h]
theorem only_some {as : List Addr} {H : Hp} {a : Addr} {o : HO} (h : only as H a = some o) : a ∈ as ∧ H a = some o := by
  unfold only at h
  split at h
  · exact ⟨by assumption, h⟩
  · cases h
theorem only_le {as : List Addr} {H : Hp} : Ex (only as H) H := fun _ _ h => (only_some h).2
theorem only_mono {as : List Addr} {H H' : Hp} (e : Ex H H') : Ex (only as H) (only as H') := fun a o h => by
  obtain ⟨h1, h2⟩ := only_some h
  rw [only_at h1]; exact e a o h2
theorem only_eq {as : List Addr} {H H' : Hp} (h : ∀ a ∈ as, H' a = H a) : only as H' = only as H := funext fun a => by
  by_cases ha : a ∈ as
  · rw [only_at ha, only_at ha, h a ha]
  · unfold only; rw [if_neg ha, if_neg ha]
theorem only_grow {as : List Addr} {H H' : Hp} (h : ∀ a ∈ as, H a ≠ none) (e : Ex H H') : only as H' = only as H := only_eq fun a ha => by
  cases q : H a with
  | none => exact absurd q (h a ha)
  | some o => exact e a o q
/-- what is told of hidden addresses: P over a region of a mode and over these addresses alone -/
structure GS where
  as : List Addr
  m : Nat
  P : Hp → Hp → Prop
  mono : ∀ {R R' O : Hp}, Ex R R' → P R O → P R' O
/-- what a walk leans on: the def's entry, heaps that stay, addresses that are nobody's, what is told of some of these -/
structure Fr where
  h0 : Hp
  fs : List Hp := []
  ex : List Addr := []
  gs : List GS := []
def GOk (H0 : Hp) (O ex : List Addr) (H : Hp) (g : GS) : Prop := (∀ a ∈ g.as, a ∈ ex) ∧ 1 ≤ g.m ∧ g.P (rg g.m O H0 H0 H) (only g.as H)
def Apart (gs : List GS) : Prop := gs.Pairwise fun g g' => ∀ a ∈ g.as, a ∉ g'.as
abbrev Fr.O (Z : Fr) (σ : St) (Γ : List SV) : List Addr := Z.ex ++ owns σ Γ
structure Holds (Z : Fr) (σ : St) (H : Hp) (Γ : List SV) : Prop where
  ext : ∀ B, B = Z.h0 ∨ B ∈ Z.fs → Ex B H ∧ ∀ l ∈ Z.O σ Γ, B l = none
  exd : ∀ l ∈ Z.ex, H l ≠ none ∧ l ∉ owns σ Γ
  len : σ.length = Γ.length
  nd : (owns σ Γ).Nodup
  ok : ∀ (i : Nat) (o : Option V) (sv : SV), σ[i]? = some o → Γ[i]? = some sv → SOk Z.h0 (Z.O σ Γ) H o sv
  gok : ∀ g ∈ Z.gs, GOk Z.h0 (Z.O σ Γ) Z.ex H g
  gap : Apart Z.gs
  fnt : ∀ B ∈ Z.fs, ∀ a o, B a = some o → ntb o

theorem mem_owns : ∀ {σ : St} {Γ : List SV} {l : Addr}, l ∈ owns σ Γ ↔ ∃ (i m : Nat) (ds : List D), σ[i]? = some (some (.ref l)) ∧ Γ[i]? = some (.own m ds)
  | [], Γ, l => by unfold owns; simp
  | o :: σ, [], l => by unfold owns; simp
  | o :: σ, sv :: Γ, l => by
    have ih := mem_owns (σ := σ) (Γ := Γ) (l := l)
    have up : (∃ (i m : Nat) (ds : List D), σ[i]? = some (some (V.ref l)) ∧ Γ[i]? = some (.own m ds)) → ∃ (i m : Nat) (ds : List D), (o :: σ)[i]? = some (some (V.ref l)) ∧ (sv :: Γ)[i]? = some (.own m ds) := fun ⟨i, m, ds, h1, h2⟩ => ⟨i + 1, m, ds, by simpa using h1, by simpa using h2⟩
    by_cases hc : ∃ l' m ds, o = some (.ref l') ∧ sv = .own m ds
    · obtain ⟨l', m, ds, rfl, rfl⟩ := hc
      show l ∈ l' :: owns σ Γ ↔ _
      rw [List.mem_cons, ih]
      constructor
      · rintro (rfl | h)
        · exact ⟨0, m, ds, rfl, rfl⟩
        · exact up h
      · rintro ⟨i, m', ds', h1, h2⟩
        cases i with
        | zero => simp at h1; exact .inl h1.symm
        | succ i => exact .inr ⟨i, m', ds', by simpa using h1, by simpa using h2⟩
    · have e : owns (o :: σ) (sv :: Γ) = owns σ Γ := by
        conv => lhs; unfold owns
        split
        · rename_i h1 h2
          cases h1; cases h2
          exact absurd ⟨_, _, _, rfl, rfl⟩ hc
        · rename_i h1 h2; cases h1; cases h2; rfl
        · rename_i h; exact (h _ _ _ _ rfl rfl).elim
      rw [e, ih]
      constructor
      · exact up
      · rintro ⟨i, m', ds', h1, h2⟩
        cases i with
        | zero => simp at h1 h2; exact absurd ⟨l, m', ds', h1, h2⟩ hc
        | succ i => exact ⟨i, m', ds', by simpa using h1, by simpa using h2⟩
theorem owns_cons_no {o : Option V} {sv : SV} {σ : St} {Γ : List SV} (h : ¬ ∃ l m ds, o = some (V.ref l) ∧ sv = SV.own m ds) : owns (o :: σ) (sv :: Γ) = owns σ Γ := by
  conv => lhs; unfold owns
  split
  · rename_i h1 h2
    cases h1; cases h2
    exact absurd ⟨_, _, _, rfl, rfl⟩ h
  · rename_i h1 h2; cases h1; cases h2; rfl
  · rename_i h; exact (h _ _ _ _ rfl rfl).elim
/-- a slot that is not owned afterwards -/
theorem owns_set_no : ∀ {σ : St} {Γ : List SV} (i : Nat) (o : Option V) (sv : SV), (∀ m ds, sv ≠ .own m ds) → (owns (σ.set i o) (Γ.set i sv)).Sublist (owns σ Γ)
  | [], Γ, i, o, sv, h => by unfold owns; simp
  | a :: σ, [], i, o, sv, h => by
    cases i <;> (unfold owns; simp)
  | a :: σ, b :: Γ, 0, o, sv, h => by
    rw [List.set_cons_zero, List.set_cons_zero, owns_cons_no (fun ⟨l, m, ds, _, e⟩ => h m ds e)]
    by_cases hc : ∃ l m ds, a = some (V.ref l) ∧ b = SV.own m ds
    · obtain ⟨l, m, ds, rfl, rfl⟩ := hc
      exact List.sublist_cons_self _ _
    · rw [owns_cons_no hc]; exact List.Sublist.refl _
  | a :: σ, b :: Γ, i + 1, o, sv, h => by
    rw [List.set_cons_succ, List.set_cons_succ]
    have ih := owns_set_no (σ := σ) (Γ := Γ) i o sv h
    by_cases hc : ∃ l m ds, a = some (V.ref l) ∧ b = SV.own m ds
    · obtain ⟨l, m, ds, rfl, rfl⟩ := hc
      exact List.Sublist.cons₂ _ ih
    · rw [owns_cons_no hc, owns_cons_no hc]; exact ih
theorem owns_set_own {l : Addr} {m : Nat} {ds : List D} : ∀ {σ : St} {Γ : List SV} (i : Nat), l ∉ owns σ Γ → (owns σ Γ).Nodup → (owns (σ.set i (some (.ref l))) (Γ.set i (.own m ds))).Nodup ∧ ∀ a ∈ owns (σ.set i (some (.ref l))) (Γ.set i (.own m ds)), a = l ∨ a ∈ owns σ Γ
  | [], Γ, i, h, _ => by unfold owns; simp
  | a :: σ, [], i, h, _ => by
    cases i <;> (unfold owns; simp)
  | a :: σ, b :: Γ, 0, h, nd => by
    rw [List.set_cons_zero, List.set_cons_zero]
    show (l :: owns σ Γ).Nodup ∧ ∀ a_1 ∈ l :: owns σ Γ, _
    by_cases hc : ∃ l m ds, a = some (V.ref l) ∧ b = SV.own m ds
    · obtain ⟨l', m, ds, rfl, rfl⟩ := hc
      have e : owns (some (V.ref l') :: σ) (SV.own m ds :: Γ) = l' :: owns σ Γ := rfl
      rw [e] at h nd
      rw [e]
      refine ⟨List.nodup_cons.mpr ⟨fun z => h (List.mem_cons_of_mem _ z), (List.nodup_cons.mp nd).2⟩, fun x hx => ?_⟩
      rcases List.mem_cons.mp hx with r | r
      · exact .inl r
      · exact .inr (List.mem_cons_of_mem _ r)
    · rw [owns_cons_no hc] at h nd
      rw [owns_cons_no hc]
      exact ⟨List.nodup_cons.mpr ⟨h, nd⟩, fun x hx => List.mem_cons.mp hx⟩
  | a :: σ, b :: Γ, i + 1, h, nd => by
    rw [List.set_cons_succ, List.set_cons_succ]
    by_cases hc : ∃ l m ds, a = some (V.ref l) ∧ b = SV.own m ds
    · obtain ⟨l', m', ds', rfl, rfl⟩ := hc
      have e : ∀ (σ : St) (Γ : List SV), owns (some (V.ref l') :: σ) (SV.own m' ds' :: Γ) = l' :: owns σ Γ := fun _ _ => rfl
      rw [e] at h nd
      rw [e, e]
      obtain ⟨n1, n2⟩ := List.nodup_cons.mp nd
      obtain ⟨ih1, ih2⟩ := owns_set_own (l := l) (m := m) (ds := ds) (σ := σ) (Γ := Γ) i (fun z => h (List.mem_cons_of_mem _ z)) n2
      refine ⟨List.nodup_cons.mpr ⟨fun z => ?_, ih1⟩, fun x hx => ?_⟩
      · rcases ih2 _ z with r | r
        · exact h (by rw [r]; exact List.mem_cons_self)
        · exact n1 r
      · rcases List.mem_cons.mp hx with r | r
        · exact .inr (by rw [r]; exact List.mem_cons_self)
        · exact (ih2 x r).imp id (List.mem_cons_of_mem _)
    · rw [owns_cons_no hc] at h nd
      rw [owns_cons_no hc, owns_cons_no hc]
      exact owns_set_own i h nd

theorem SOk.mono {H0 H H' : Hp} {O O' : List Addr} {o : Option V} {sv : SV} (hO : ∀ a, a ∈ O' → a ∈ O ∨ H a = none) (e : Ex H H') (h : SOk H0 O H o sv) : SOk H0 O' H' o sv := by
  cases sv with
  | any => trivial
  | raw v => exact h
  | dat m d =>
    obtain ⟨v, e1, r⟩ := h
    exact ⟨v, e1, r.mono (rg_ex hO (Ex.refl _) e)⟩
  | own m ds =>
    obtain ⟨l, vs, e1, e2, e3, r⟩ := h
    exact ⟨l, vs, e1, e _ _ e2, e3, r.mono (rg_ex hO (Ex.refl _) e)⟩
theorem GOk.mono {H0 H H' : Hp} {O O' ex ex' : List Addr} {g : GS} (hO : ∀ a, a ∈ O' → a ∈ O ∨ H a = none) (e : Ex H H') (hx : ∀ a ∈ ex, H a ≠ none) (hx' : ∀ a ∈ g.as, a ∈ ex → a ∈ ex') (h : GOk H0 O ex H g) : GOk H0 O' ex' H' g := by
  obtain ⟨h1, h2, h3⟩ := h
  refine ⟨fun a ha => hx' a ha (h1 a ha), h2, ?_⟩
  rw [only_grow (fun a ha => hx a (h1 a ha)) e]
  exact g.mono (rg_ex hO (Ex.refl _) e) h3
section
variable {Z : Fr} {H H' Hs : Hp} {σ : St} {Γ : List SV} {v : V} {d : D} {ds : List D} {m i : Nat}
theorem Holds.h0x (h : Holds Z σ H Γ) : Ex Z.h0 H := (h.ext _ (.inl rfl)).1
theorem Holds.grow (h : Holds Z σ H Γ) (e : Ex H H') : Holds Z σ H' Γ :=
  ⟨fun B hB => ⟨(h.ext B hB).1.trans e, (h.ext B hB).2⟩, fun l hl => ⟨fun z => (h.exd l hl).1 (Ex.free e z), (h.exd l hl).2⟩, h.len, h.nd, fun i o sv e1 e2 => (h.ok i o sv e1 e2).mono (fun a z => .inl z) e, fun g hg => (h.gok g hg).mono (fun a z => .inl z) e (fun a ha => (h.exd a ha).1) (fun _ _ z => z), h.gap, h.fnt⟩
theorem Holds.own_at (h : Holds Z σ H Γ) {l : Addr} (hl : l ∈ owns σ Γ) : ∃ vs, H l = some (.lst vs) := by
  obtain ⟨i, m, ds, h1, h2⟩ := mem_owns.mp hl
  obtain ⟨l', vs, e, e2, _⟩ := h.ok i _ _ h1 h2
  cases e
  exact ⟨vs, e2⟩
/-- what is owned stands -/
theorem Holds.dom (h : Holds Z σ H Γ) : ∀ a ∈ Z.O σ Γ, H a ≠ none := fun a z e => by
  rcases List.mem_append.mp z with z | z
  · exact (h.exd a z).1 e
  · obtain ⟨vs, q⟩ := h.own_at z
    rw [e] at q; cases q
/-- a slot is given something that is not owned -/
theorem Holds.put (h : Holds Z σ H Γ) (i : Nat) (o : Option V) (sv : SV) (hn : ∀ m ds, sv ≠ .own m ds) (hs : SOk Z.h0 (Z.O σ Γ) H o sv) : Holds Z (σ.set i o) H (Γ.set i sv) := by
  have sub := owns_set_no (σ := σ) (Γ := Γ) i o sv hn
  have hO1 : ∀ a, a ∈ Z.O (σ.set i o) (Γ.set i sv) → a ∈ Z.O σ Γ := fun a z => by
    rcases List.mem_append.mp z with z | z
    · exact List.mem_append_left _ z
    · exact List.mem_append_right _ (sub.mem z)
  have hO : ∀ a, a ∈ Z.O (σ.set i o) (Γ.set i sv) → a ∈ Z.O σ Γ ∨ H a = none := fun a z => .inl (hO1 a z)
  refine ⟨fun B hB => ⟨(h.ext B hB).1, fun l hl => (h.ext B hB).2 l (hO1 l hl)⟩, fun l hl => ⟨(h.exd l hl).1, fun z => (h.exd l hl).2 (sub.mem z)⟩, by rw [List.length_set, List.length_set]; exact h.len, h.nd.sublist sub, fun j o' sv' e1 e2 => ?_, fun g hg => (h.gok g hg).mono hO (Ex.refl _) (fun a ha => (h.exd a ha).1) (fun _ _ z => z), h.gap, h.fnt⟩
  by_cases hj : i = j
  · subst hj
    have hl : i < σ.length := by
      have := (List.getElem?_eq_some_iff.mp e1).1
      rw [List.length_set] at this; exact this
    rw [List.getElem?_set_self hl] at e1
    rw [List.getElem?_set_self (by rw [← h.len]; exact hl)] at e2
    cases e1; cases e2
    exact hs.mono hO (Ex.refl _)
  · rw [List.getElem?_set_ne hj] at e1 e2
    exact (h.ok j o' sv' e1 e2).mono hO (Ex.refl _)
theorem Holds.dat (h : Holds Z σ H Γ) (i : Nat) (r : Rep (rg m (Z.O σ Γ) Z.h0 Z.h0 H) v d) : Holds Z (σ.set i (some v)) H (Γ.set i (.dat m d)) :=
  h.put i _ _ (fun _ _ z => by cases z) ⟨v, rfl, r⟩
theorem Holds.raw (h : Holds Z σ H Γ) (i : Nat) (v : V) : Holds Z (σ.set i (some v)) H (Γ.set i (.raw v)) :=
  h.put i _ _ (fun _ _ z => by cases z) rfl
theorem Holds.forget (h : Holds Z σ H Γ) (i : Nat) (o : Option V) : Holds Z (σ.set i o) H (Γ.set i .any) := h.put i _ _ (fun _ _ z => by cases z) trivial
/-- a new list becomes the slot's own -/
theorem Holds.setOwn (h : Holds Z σ H Γ) (i : Nat) (e : Ex H H') {l : Addr} (r : Rep (rg 3 (Z.O σ Γ) Z.h0 H H') (.ref l) (.lst ds)) : Holds Z (σ.set i (some (.ref l))) H' (Γ.set i (.own 2 ds)) := by
  obtain ⟨vs, hl, hv⟩ : ∃ vs, rg 3 (Z.O σ Γ) Z.h0 H H' l = some (.lst vs) ∧ RepL (rg 3 (Z.O σ Γ) Z.h0 H H') vs ds := by
    cases r with
    | lst h1 h2 => exact ⟨_, h1, h2⟩
  obtain ⟨n1, n2, n3⟩ := reg_some hl
  have n1' : l ∉ owns σ Γ := fun z => n1 (List.mem_append_right _ z)
  have hv' : RepL (wo (rg 3 (Z.O σ Γ) Z.h0 H H') l) vs ds := RepL.wo r hv (by simp only [D.lst.sizeOf_spec]; omega)
  obtain ⟨nd, hm⟩ := owns_set_own (l := l) (m := 2) (ds := ds) (σ := σ) (Γ := Γ) i n1' h.nd
  have hm' : ∀ a, a ∈ Z.O (σ.set i (some (.ref l))) (Γ.set i (.own 2 ds)) → a = l ∨ a ∈ Z.O σ Γ := fun a z => by
    rcases List.mem_append.mp z with z | z
    · exact .inr (List.mem_append_left _ z)
    · exact (hm a z).imp id (List.mem_append_right _)
  have hO : ∀ a, a ∈ Z.O (σ.set i (some (.ref l))) (Γ.set i (.own 2 ds)) → a ∈ Z.O σ Γ ∨ H a = none := fun a z => by
    rcases hm' a z with q | q
    · exact .inr (by rw [q]; exact n2)
    · exact .inl q
  refine ⟨fun B hB => ⟨(h.ext B hB).1.trans e, fun a z => ?_⟩, fun a ha => ⟨fun z => (h.exd a ha).1 (Ex.free e z), fun z => ?_⟩, by rw [List.length_set, List.length_set]; exact h.len, nd, fun j o' sv' e1 e2 => ?_, fun g hg => (h.gok g hg).mono hO e (fun a ha => (h.exd a ha).1) (fun _ _ z => z), h.gap, h.fnt⟩
  · rcases hm' a z with q | q
    · rw [q]; exact Ex.free (h.ext B hB).1 n2
    · exact (h.ext B hB).2 a q
  · rcases hm a z with q | q
    · subst q; exact (h.exd a ha).1 n2
    · exact (h.exd a ha).2 q
  by_cases hj : i = j
  · subst hj
    have hl : i < σ.length := by
      have := (List.getElem?_eq_some_iff.mp e1).1
      rw [List.length_set] at this; exact this
    rw [List.getElem?_set_self hl] at e1
    rw [List.getElem?_set_self (by rw [← h.len]; exact hl)] at e2
    cases e1; cases e2
    refine ⟨l, vs, rfl, n3, Ex.free h.h0x n2, hv'.mono fun a o q => ?_⟩
    have hne : a ≠ l := fun z => by rw [z] at q; unfold wo at q; rw [if_pos rfl] at q; cases q
    rw [wo_ne hne] at q
    obtain ⟨q1, q2, q3, q4⟩ := reg_some4 q
    show reg _ Z.h0 H' a = _
    refine reg_has (fun z => ?_) (Ex.free h.h0x q2) q3 q4
    rcases hm' a z with z | z
    · exact hne z
    · exact q1 z
  · rw [List.getElem?_set_ne hj] at e1 e2
    exact (h.ok j o' sv' e1 e2).mono hO e
/-- no slot leans on what is owned -/
def noz : List SV → Bool
  | [] => true
  | .dat 0 _ :: _ => false
  | .own 0 _ :: _ => false
  | _ :: Γ => noz Γ
theorem noz_at : ∀ {Γ : List SV} {i : Nat} {sv : SV}, noz Γ = true → Γ[i]? = some sv → (∀ d, sv ≠ .dat 0 d) ∧ ∀ ds, sv ≠ .own 0 ds
  | [], _, _, _, e => by simp at e
  | a :: Γ, i, sv, h, e => by
    have h1 : noz Γ = true ∧ (∀ d, a ≠ .dat 0 d) ∧ ∀ ds, a ≠ .own 0 ds := by
      unfold noz at h
      split at h
      · rename_i e; cases e
      · cases h
      · cases h
      · rename_i n1 n2 e
        cases e
        exact ⟨h, fun d z => n1 d z, fun ds z => n2 ds z⟩
    cases i with
    | zero => simp at e; subst e; exact h1.2
    | succ i => exact noz_at (i := i) h1.1 (by simpa using e)
theorem owns_two : ∀ {σ : St} {Γ : List SV} {i j : Nat} {l : Addr} {m k : Nat} {ds es : List D}, i ≠ j → σ[i]? = some (some (V.ref l)) → Γ[i]? = some (.own m ds) → σ[j]? = some (some (V.ref l)) → Γ[j]? = some (.own k es) → ¬ (owns σ Γ).Nodup := by
  intro σ
  induction σ with
  | nil => intro Γ i j l m k ds es _ e; simp at e
  | cons a σ ih =>
    intro Γ i j l m k ds es hij b1 b2 b3 b4 nd
    cases Γ with
    | nil => simp at b2
    | cons b Γ =>
      have nd' : (owns σ Γ).Nodup := by
        by_cases hc : ∃ l m ds, a = some (V.ref l) ∧ b = SV.own m ds
        · obtain ⟨l', m'', ds'', rfl, rfl⟩ := hc
          exact (List.nodup_cons.mp (show (l' :: owns σ Γ).Nodup from nd)).2
        · rw [owns_cons_no hc] at nd; exact nd
      cases i with
      | zero =>
        cases j with
        | zero => exact hij rfl
        | succ j =>
          simp at b1 b2 b3 b4; subst b1; subst b2
          exact (List.nodup_cons.mp (show (l :: owns σ Γ).Nodup from nd)).1 (mem_owns.mpr ⟨j, k, es, b3, b4⟩)
      | succ i =>
        cases j with
        | zero =>
          simp at b1 b2 b3 b4; subst b3; subst b4
          exact (List.nodup_cons.mp (show (l :: owns σ Γ).Nodup from nd)).1 (mem_owns.mpr ⟨i, m, ds, b1, b2⟩)
        | succ j => exact ih (Γ := Γ) (i := i) (j := j) (fun z => hij (by rw [z])) (by simpa using b1) (by simpa using b2) (by simpa using b3) (by simpa using b4) nd'
theorem owns_same {m m' : Nat} {ds es : List D} {l : Addr} : ∀ {σ : St} {Γ : List SV} {i : Nat}, σ[i]? = some (some (V.ref l)) → Γ[i]? = some (.own m ds) → owns σ (Γ.set i (.own m' es)) = owns σ Γ := by
  intro σ
  induction σ with
  | nil => intro Γ i e; simp at e
  | cons a σ ih =>
    intro Γ i e e'
    cases Γ with
    | nil => simp at e'
    | cons b Γ =>
      cases i with
      | zero => simp at e e'; subst e; subst e'; rfl
      | succ i =>
        rw [List.set_cons_succ]
        have q := ih (Γ := Γ) (i := i) (by simpa using e) (by simpa using e')
        by_cases hc : ∃ l m ds, a = some (V.ref l) ∧ b = SV.own m ds
        · obtain ⟨l', m'', ds'', rfl, rfl⟩ := hc
          show l' :: owns σ (Γ.set i _) = l' :: owns σ Γ
          rw [q]
        · rw [owns_cons_no hc, owns_cons_no hc, q]
/-- the regions of a mode from 1 on don't see what is owned -/
theorem rg_mut {k : Nat} {O : List Addr} {H0 Hs H : Hp} {l : Addr} {o' : HO} (hk : 1 ≤ k) (hl : l ∈ O) : Ex (rg k O H0 Hs H) (rg k O H0 Hs (upd H l o')) := by
  have key : ∀ B, Ex (reg O B H) (reg O B (upd H l o')) := fun B a o q => by
    obtain ⟨n1, n2, n3, n4⟩ := reg_some4 q
    exact reg_has n1 n2 (by rw [upd_ne (fun (z : a = l) => n1 (by rw [z]; exact hl))]; exact n3) n4
  match k, hk with
  | 1, _ => exact key _
  | 2, _ => exact key _
  | _ + 3, _ => exact key _
theorem GOk.mut {O ex : List Addr} {H0 H : Hp} {l : Addr} {o' : HO} {g : GS} (hl : l ∈ O) (hn : l ∉ g.as) (h : GOk H0 O ex H g) : GOk H0 O ex (upd H l o') g := ⟨h.1, h.2.1, by
  rw [only_eq fun a ha => upd_ne fun (z : a = l) => hn (by rw [← z]; exact ha)]
  exact g.mono (rg_mut h.2.1 hl) h.2.2⟩
theorem SOk.mut {O : List Addr} {H0 : Hp} {o : Option V} {sv : SV} {l : Addr} {o' : HO} (hl : l ∈ O) (z : (∀ d, sv ≠ .dat 0 d) ∧ ∀ ds, sv ≠ .own 0 ds) (hne : ∀ m ds, sv = .own m ds → o ≠ some (.ref l)) (q : SOk H0 O H o sv) : SOk H0 O (upd H l o') o sv := by
  cases sv with
  | any => trivial
  | raw v => exact q
  | dat k d =>
    obtain ⟨v, a1, a2⟩ := q
    exact ⟨v, a1, a2.mono (rg_mut (by cases k with | zero => exact absurd rfl (z.1 d) | succ k => omega) hl)⟩
  | own k es' =>
    obtain ⟨l2, vs2, a1, a2, a3, a4⟩ := q
    have hne : l2 ≠ l := fun e => hne k es' rfl (by rw [a1, e])
    exact ⟨l2, vs2, a1, by rw [upd_ne hne]; exact a2, a3, a4.mono (rg_mut (by cases k with | zero => exact absurd rfl (z.2 es') | succ k => omega) hl)⟩
/-- the slot's own list is changed -/
theorem Holds.mutate {m' : Nat} {es : List D} {l : Addr} {ws : List V} (h : Holds Z σ H Γ) (hz : noz Γ = true) (hi : Γ[i]? = some (.own m ds)) (hσ : σ[i]? = some (some (.ref l))) (hm : 1 ≤ m')
    (r : RepL (rg m' (Z.O σ Γ) Z.h0 Z.h0 H) ws es) : Holds Z σ (upd H l (.lst ws)) (Γ.set i (.own m' es)) := by
  obtain ⟨l', vs', e1, e2, e3, _⟩ := h.ok i _ _ hσ hi
  cases e1
  have hlo : l ∈ owns σ Γ := mem_owns.mpr ⟨i, m, ds, hσ, hi⟩
  have hlO : l ∈ Z.O σ Γ := List.mem_append_right _ hlo
  have hil : i < σ.length := (List.getElem?_eq_some_iff.mp hσ).1
  have eo : owns σ (Γ.set i (.own m' es)) = owns σ Γ := owns_same hσ hi
  have eO : Z.O σ (Γ.set i (.own m' es)) = Z.O σ Γ := congrArg (Z.ex ++ ·) eo
  refine ⟨fun B hB => ⟨fun a o e => ?_, by rw [eO]; exact (h.ext B hB).2⟩, fun a ha => ⟨fun z => ?_, by rw [eo]; exact (h.exd a ha).2⟩, by rw [List.length_set]; exact h.len, by rw [eo]; exact h.nd, fun j o' sv' q1 q2 => ?_, fun g hg => by rw [eO]; exact (h.gok g hg).mut hlO fun z => (h.exd l ((h.gok g hg).1 l z)).2 hlo, h.gap, h.fnt⟩
  · rw [upd_ne (ne_of_none e ((h.ext B hB).2 l hlO))]
    exact (h.ext B hB).1 a o e
  · have hne : a ≠ l := fun e => (h.exd a ha).2 (by rw [e]; exact hlo)
    rw [upd_ne hne] at z
    exact (h.exd a ha).1 z
  · rw [eO]
    by_cases hj : i = j
    · subst hj
      rw [List.getElem?_set_self (by rw [← h.len]; exact hil)] at q2
      rw [hσ] at q1
      cases q1; cases q2
      exact ⟨l, ws, rfl, upd_same, e3, r.mono (rg_mut hm hlO)⟩
    · rw [List.getElem?_set_ne hj] at q2
      exact (h.ok j o' sv' q1 q2).mut hlO (noz_at hz q2) fun k es' e1 e2 => by
        subst e1; subst e2
        exact owns_two hj hσ hi q1 q2 h.nd
/-- the slot's own list is given up: data from now on -/
theorem Holds.freeze (h : Holds Z σ H Γ) (hi : Γ[i]? = some (.own m ds)) (hσ : σ[i]? = some (some v)) (hm : m ≤ 2) (hex : Z.ex = []) : Rep (rg m [] Z.h0 Z.h0 H) v (.lst ds) := by
  obtain ⟨l, vs, e1, e2, e3, r⟩ := h.ok i _ _ hσ hi
  cases e1
  have hex : Ex (rg m (Z.O σ Γ) Z.h0 Z.h0 H) (rg m [] Z.h0 Z.h0 H) := rg_ex (fun a z => by simp at z) (Ex.refl _) (Ex.refl _)
  refine .lst (vs := vs) ?_ (r.mono hex)
  match m, hm with
  | 0, _ => exact nt_at e2 trivial
  | 1, _ =>
    show reg [] hn H l = _
    rw [reg_at (by simp) rfl]; exact nt_at e2 trivial
  | 2, _ =>
    show reg [] Z.h0 H l = _
    rw [reg_at (by simp) e3]; exact nt_at e2 trivial
/-- the slot's own list becomes data -/
theorem Holds.thaw (h : Holds Z σ H Γ) (hi : Γ[i]? = some (.own m ds)) (hm : m ≤ 2) : Holds Z σ H (Γ.set i (.dat m (.lst ds))) := by
  have hil : i < σ.length := by rw [h.len]; exact (List.getElem?_eq_some_iff.mp hi).1
  have hσ := List.getElem?_eq_getElem hil
  obtain ⟨l, vs, e1, e2, e3, r⟩ := h.ok i _ _ hσ hi
  rw [e1] at hσ
  have hli : l ∈ owns σ Γ := mem_owns.mpr ⟨i, m, ds, hσ, hi⟩
  have hle : l ∉ Z.ex := fun z => (h.exd l z).2 hli
  have sub := owns_set_no (σ := σ) (Γ := Γ) i (some (V.ref l)) (.dat m (.lst ds)) fun _ _ z => by cases z
  have eσ : σ.set i (some (.ref l)) = σ := by
    apply List.ext_getElem?
    intro j
    by_cases hj : i = j
    · subst hj; rw [List.getElem?_set_self hil, hσ]
    · rw [List.getElem?_set_ne hj]
  rw [eσ] at sub
  have hnl : l ∉ owns σ (Γ.set i (.dat m (.lst ds))) := fun z => by
    obtain ⟨j, k, es, q1, q2⟩ := mem_owns.mp z
    by_cases hj : i = j
    · subst hj
      rw [List.getElem?_set_self (by rw [← h.len]; exact hil)] at q2
      cases q2
    · rw [List.getElem?_set_ne hj] at q2
      exact owns_two hj hσ hi q1 q2 h.nd
  have hO1 : ∀ a, a ∈ Z.O σ (Γ.set i (.dat m (.lst ds))) → a ∈ Z.O σ Γ := fun a z => by
    rcases List.mem_append.mp z with z | z
    · exact List.mem_append_left _ z
    · exact List.mem_append_right _ (sub.mem z)
  have hO : ∀ a, a ∈ Z.O σ (Γ.set i (.dat m (.lst ds))) → a ∈ Z.O σ Γ ∨ H a = none := fun a z => .inl (hO1 a z)
  have hlO : l ∉ Z.O σ (Γ.set i (.dat m (.lst ds))) := fun z => by
    rcases List.mem_append.mp z with z | z
    · exact hle z
    · exact hnl z
  refine ⟨fun B hB => ⟨(h.ext B hB).1, fun l hl => (h.ext B hB).2 l (hO1 l hl)⟩, fun l hl => ⟨(h.exd l hl).1, fun z => (h.exd l hl).2 (sub.mem z)⟩, by rw [List.length_set]; exact h.len, h.nd.sublist sub, fun j o' sv' q1 q2 => ?_, fun g hg => (h.gok g hg).mono hO (Ex.refl _) (fun a ha => (h.exd a ha).1) (fun _ _ z => z), h.gap, h.fnt⟩
  by_cases hj : i = j
  · subst hj
    rw [List.getElem?_set_self (by rw [← h.len]; exact hil)] at q2
    rw [hσ] at q1
    cases q1; cases q2
    refine ⟨_, rfl, .lst (vs := vs) ?_ (r.mono (rg_ex hO (Ex.refl _) (Ex.refl _)))⟩
    match m, hm with
    | 0, _ => exact nt_at e2 trivial
    | 1, _ =>
      show reg _ hn H l = _
      rw [reg_at hlO rfl]; exact nt_at e2 trivial
    | 2, _ =>
      show reg _ Z.h0 H l = _
      rw [reg_at hlO e3]; exact nt_at e2 trivial
  · rw [List.getElem?_set_ne hj] at q2
    exact (h.ok j o' sv' q1 q2).mono hO (Ex.refl _)
/-- one more heap that stays -/
theorem Holds.frame (h : Holds Z σ H Γ) {B : Hp} (e : Ex B H) (hB : ∀ l ∈ Z.O σ Γ, B l = none) (hn : ∀ a o, B a = some o → ntb o) : Holds { Z with fs := B :: Z.fs } σ H Γ :=
  ⟨fun B' hB' => by
    rcases hB' with z | z
    · exact h.ext B' (.inl z)
    · rcases List.mem_cons.mp z with z | z
      · subst z; exact ⟨e, hB⟩
      · exact h.ext B' (.inr z), h.exd, h.len, h.nd, h.ok, h.gok, h.gap, fun B' hB' => by
    rcases List.mem_cons.mp hB' with z | z
    · subst z; exact hn
    · exact h.fnt B' z⟩
theorem Holds.unframe {B : Hp} (h : Holds { Z with fs := B :: Z.fs } σ H Γ) : Holds Z σ H Γ :=
  ⟨fun B' hB' => h.ext B' (hB'.imp id (List.mem_cons_of_mem _)), h.exd, h.len, h.nd, h.ok, h.gok, h.gap, fun B' hB' => h.fnt B' (List.mem_cons_of_mem _ hB')⟩
theorem Holds.stays {B : Hp} (h : Holds { Z with fs := B :: Z.fs } σ H Γ) : Ex B H := (h.ext B (.inr List.mem_cons_self)).1
/-- new addresses that are nobody's -/
theorem Holds.hides (h : Holds Z σ H Γ) (e : Ex H H') {as : List Addr} (hp : ∀ a ∈ as, H a = none ∧ H' a ≠ none) : Holds { Z with ex := as ++ Z.ex } σ H' Γ := by
  have hO : ∀ a, a ∈ (as ++ Z.ex) ++ owns σ Γ → a ∈ Z.O σ Γ ∨ H a = none := fun a z => by
    rw [List.append_assoc] at z
    rcases List.mem_append.mp z with z | z
    · exact .inr (hp a z).1
    · exact .inl z
  refine ⟨fun B hB => ⟨(h.ext B hB).1.trans e, fun l hl => ?_⟩, fun l hl => ?_, h.len, h.nd, fun i o' sv e1 e2 => (h.ok i o' sv e1 e2).mono hO e, fun g hg => (h.gok g hg).mono hO e (fun a ha => (h.exd a ha).1) (fun a _ z => List.mem_append_right _ z), h.gap, h.fnt⟩
  · rcases hO l hl with z | z
    · exact (h.ext B hB).2 l z
    · exact Ex.free (h.ext B hB).1 z
  · rcases List.mem_append.mp hl with z | z
    · refine ⟨(hp l z).2, fun q => ?_⟩
      obtain ⟨vs, q⟩ := h.own_at q
      rw [(hp l z).1] at q; cases q
    · exact ⟨fun q => (h.exd l z).1 (Ex.free e q), (h.exd l z).2⟩
theorem Holds.hide (h : Holds Z σ H Γ) {p : Addr} {o : HO} (hp : H p = none) : Holds { Z with ex := p :: Z.ex } σ (upd H p o) Γ :=
  h.hides (as := [p]) (Ex.new hp) fun a ha => by rw [List.mem_singleton.mp ha]; exact ⟨hp, by rw [upd_same]; simp⟩
/-- a hidden one is changed -/
theorem Holds.turn {p : Addr} {o : HO} {gs' : List GS} (h : Holds Z σ H Γ) (hp : p ∈ Z.ex) (hz : noz Γ = true) (hg : ∀ g ∈ gs', GOk Z.h0 (Z.O σ Γ) Z.ex (upd H p o) g) (ha : Apart gs') : Holds { Z with gs := gs' } σ (upd H p o) Γ := by
  have hpO : p ∈ Z.O σ Γ := List.mem_append_left _ hp
  refine ⟨fun B hB => ⟨fun a u e => ?_, (h.ext B hB).2⟩, fun l hl => ⟨?_, (h.exd l hl).2⟩, h.len, h.nd, fun i o' sv e1 e2 => (h.ok i o' sv e1 e2).mut hpO (noz_at hz e2) fun k es e e' => ?_, hg, ha, h.fnt⟩
  · rw [upd_ne (ne_of_none e ((h.ext B hB).2 p hpO))]
    exact (h.ext B hB).1 a u e
  · by_cases hl' : l = p
    · rw [hl', upd_same]; simp
    · rw [upd_ne hl']; exact (h.exd l hl).1
  · subst e; subst e'
    exact (h.exd p hp).2 (mem_owns.mpr ⟨i, k, es, e1, e2⟩)
theorem Holds.turnEx {p : Addr} {o : HO} (h : Holds Z σ H Γ) (hp : p ∈ Z.ex) (hz : noz Γ = true) (hg : ∀ g ∈ Z.gs, p ∉ g.as) : Holds Z σ (upd H p o) Γ :=
  h.turn hp hz (fun g hm => (h.gok g hm).mut (List.mem_append_left _ hp) (hg g hm)) h.gap
/-- all but tables stays -/
theorem Holds.growT {gs' : List GS} (h : Holds Z σ H Γ) (e : ExT H H') (hp : ∀ a ∈ Z.ex, H' a ≠ none) (h0 : Ex Z.h0 H') (hg : ∀ g ∈ gs', GOk Z.h0 (Z.O σ Γ) Z.ex H' g) (ha : Apart gs') : Holds { Z with gs := gs' } σ H' Γ := by
  refine ⟨fun B hB => ⟨?_, (h.ext B hB).2⟩, fun l hl => ⟨hp l hl, (h.exd l hl).2⟩, h.len, h.nd, fun i o sv e1 e2 => ?_, hg, ha, h.fnt⟩
  · rcases hB with z | z
    · rw [z]; exact h0
    · exact fun a o q => e a o ((h.ext B (.inr z)).1 a o q) (h.fnt B z a o q)
  · have q := h.ok i o sv e1 e2
    cases sv with
    | any => trivial
    | raw v => exact q
    | dat m d =>
      obtain ⟨v, e1, r⟩ := q
      exact ⟨v, e1, r.mono (rg_exT (fun _ z => .inl z) (Ex.refl _) e)⟩
    | own m ds =>
      obtain ⟨l, vs, e1, e2, e3, r⟩ := q
      exact ⟨l, vs, e1, e _ _ e2 trivial, e3, r.mono (rg_exT (fun _ z => .inl z) (Ex.refl _) e)⟩
/-- other things are told of the hidden ones -/
theorem Holds.tell {gs' : List GS} (h : Holds Z σ H Γ) (hg : ∀ g ∈ gs', GOk Z.h0 (Z.O σ Γ) Z.ex H g) (ha : Apart gs') : Holds { Z with gs := gs' } σ H Γ := ⟨h.ext, h.exd, h.len, h.nd, h.ok, hg, ha, h.fnt⟩
/-- hidden ones are given up -/
theorem Holds.open_ {as ex : List Addr} {gs' : List GS} (h : Holds { Z with ex := as ++ ex } σ H Γ) (hg : ∀ g ∈ gs', g ∈ Z.gs ∧ ∀ a ∈ g.as, a ∈ ex) (ha : Apart gs') : Holds { Z with ex := ex, gs := gs' } σ H Γ := by
  have hO1 : ∀ a, a ∈ ex ++ owns σ Γ → a ∈ (as ++ ex) ++ owns σ Γ := fun a z => by
    rw [List.append_assoc]; exact List.mem_append_right _ z
  refine ⟨fun B hB => ⟨(h.ext B hB).1, fun l hl => (h.ext B hB).2 l (hO1 l hl)⟩, fun l hl => h.exd l (List.mem_append_right _ hl), h.len, h.nd, fun i o sv e1 e2 => (h.ok i o sv e1 e2).mono (fun a z => .inl (hO1 a z)) (Ex.refl _), fun g hm => ?_, ha, h.fnt⟩
  obtain ⟨h1, h2⟩ := hg g hm
  exact (h.gok g h1).mono (fun a z => .inl (hO1 a z)) (Ex.refl _) (fun a ha => (h.exd a ha).1) fun a ha _ => h2 a ha
end
end DL

set_option Elab.async false
set_option linter.all false
set_option maxRecDepth 100000
/-! DL2: expressions over an environment of data. -/
namespace DL
open PySem L2

/-! ### readings -/
def tD (Z : Fr) (Γ : List SV) (m : Nat) (d : D) : TE := fun σ H Q => Holds Z σ H Γ ∧ ∀ v H', Ex H H' → Rep (rg m (Z.O σ Γ) Z.h0 H H') v d → Q v H'
def tDA (Z : Fr) (Γ : List SV) (m : Nat) (ds : List D) : TA := fun σ H Q => Holds Z σ H Γ ∧ ∀ vs H', Ex H H' → RepL (rg m (Z.O σ Γ) Z.h0 H H') vs ds → Q vs H'
def tDT (Z : Fr) (Γ : List SV) (b : Bool) : TT := fun σ H Q => Holds Z σ H Γ ∧ ∀ H', Ex H H' → Q b H'
def tR (Z : Fr) (Γ : List SV) (v : V) : TE := fun σ H Q => Holds Z σ H Γ ∧ ∀ H', Ex H H' → Q v H'

section
variable {X : Cx} {e a b : Expr} {pos : Pos}
theorem pe_imp {t t' : TE} (h : PE X e t) (i : ∀ σ H Q, t' σ H Q → t σ H Q) : PE X e t' := ⟨fun pins s σ H Q I q => h.run pins s σ H Q I (i σ H Q q)⟩
theorem pt_imp {t t' : TT} (h : PT X e t) (i : ∀ σ H Q, t' σ H Q → t σ H Q) : PT X e t' := ⟨fun pins s σ H Q I q => h.run pins s σ H Q I (i σ H Q q)⟩
theorem pw_imp {t t' : TT} (h : PW X e t) (i : ∀ σ H Q, t' σ H Q → t σ H Q) : PW X e t' := ⟨fun wh pins s σ H Q I q => h.run wh pins s σ H Q I (i σ H Q q)⟩
theorem pa_imp {es : List Expr} {t t' : TA} (h : PA X es t) (i : ∀ σ H Q, t' σ H Q → t σ H Q) : PA X es t' := ⟨fun pos pins s σ H Q I q => h.run pos pins s σ H Q I (i σ H Q q)⟩
theorem pe_no {t : TE} (h : ∀ σ H Q, ¬ t σ H Q) : PE X e t := ⟨fun pins s σ H Q I q => (h σ H Q q).elim⟩
theorem pt_no {t : TT} (h : ∀ σ H Q, ¬ t σ H Q) : PT X e t := ⟨fun pins s σ H Q I q => (h σ H Q q).elim⟩
theorem pw_no {t : TT} (h : ∀ σ H Q, ¬ t σ H Q) : PW X e t := ⟨fun w pins s σ H Q I q => (h σ H Q q).elim⟩

variable {Z : Fr} {Γ : List SV} {m m' ma mb : Nat} {d da db : D} {r : R2} {ds es : List D}

theorem d_w (h : PE X e (tD Z Γ m' d)) (hm : m ≤ m') : PE X e (tD Z Γ m d) :=
  pe_imp h fun σ H Q ⟨i, q⟩ => ⟨i, fun v H' e r => q v H' e (r.mono (rg_down hm i.h0x))⟩
theorem d_sc (h : PE X e (tD Z Γ m' d)) {v : V} (hv : sc d = some v) : PE X e (tD Z Γ m d) :=
  pe_imp h fun σ H Q ⟨i, q⟩ => ⟨i, fun w H' e r => q w H' e (by rw [rep_sc hv r]; exact sc_rep hv _)⟩
theorem d_eq (h : PE X e (tD Z Γ m d)) {d' : D} (hd : d = d') : PE X e (tD Z Γ m d') := hd ▸ h
theorem t_eq {b b' : Bool} (h : PT X e (tDT Z Γ b)) (hd : b = b') : PT X e (tDT Z Γ b') := hd ▸ h

/-! ### names, constants -/
theorem d_v (i : Nat) {x : Str} {m : Nat} {d : D} (hΓ : Γ[i]? = some (.dat m d)) (hN : X.N[i]? = some x := by rfl) (hv : Vis X.env.scope x := by first | exact Or.inl rfl | exact Or.inr (Or.inl rfl) | exact Or.inr (Or.inr rfl))
    (h3 : m ≤ 2 := by decide) (hd : (x == ("__debug__" : Str)) = false := by decide) (hcd : (x == ("__classdict__" : Str)) = false := by decide) : PE X (.Name x pos) (tD Z Γ m d) :=
  pe_imp (pe_var hN hv hd hcd) fun σ H Q ⟨i', q⟩ => by
    have hl : i < σ.length := by rw [i'.len]; exact (List.getElem?_eq_some_iff.mp hΓ).1
    have hs := i'.ok i σ[i] _ (List.getElem?_eq_getElem hl) hΓ
    obtain ⟨v, e, r⟩ := hs
    refine ⟨v, by rw [List.getElem?_eq_getElem hl, e], q v H (Ex.refl H) ?_⟩
    match m, h3 with
    | 0, _ => exact r
    | 1, _ => exact r
    | 2, _ => exact r
/-- a slot's own list, read -/
theorem d_vo (i : Nat) {x : Str} {m : Nat} {ds : List D} (hΓ : Γ[i]? = some (.own m ds)) (hN : X.N[i]? = some x := by rfl) (hv : Vis X.env.scope x := by first | exact Or.inl rfl | exact Or.inr (Or.inl rfl) | exact Or.inr (Or.inr rfl))
    (hd : (x == ("__debug__" : Str)) = false := by decide) (hcd : (x == ("__classdict__" : Str)) = false := by decide) : PE X (.Name x pos) (tD Z Γ 0 (.lst ds)) :=
  pe_imp (pe_var hN hv hd hcd) fun σ H Q ⟨i', q⟩ => by
    have hl : i < σ.length := by rw [i'.len]; exact (List.getElem?_eq_some_iff.mp hΓ).1
    have hs := i'.ok i σ[i] _ (List.getElem?_eq_getElem hl) hΓ
    obtain ⟨l, vs, e, e2, e3, r⟩ := hs
    exact ⟨.ref l, by rw [List.getElem?_eq_getElem hl, e], q _ H (Ex.refl H) (.lst (nt_at e2 trivial) (r.mono rg_le0))⟩
theorem r_v (i : Nat) {x : Str} {v : V} (hΓ : Γ[i]? = some (.raw v)) (hN : X.N[i]? = some x := by rfl) (hv : Vis X.env.scope x := by first | exact Or.inl rfl | exact Or.inr (Or.inl rfl) | exact Or.inr (Or.inr rfl))
    (hd : (x == ("__debug__" : Str)) = false := by decide) (hcd : (x == ("__classdict__" : Str)) = false := by decide) : PE X (.Name x pos) (tR Z Γ v) :=
  pe_imp (pe_var hN hv hd hcd) fun σ H Q ⟨i', q⟩ => by
    have hl : i < σ.length := by rw [i'.len]; exact (List.getElem?_eq_some_iff.mp hΓ).1
    have hs : σ[i] = some v := i'.ok i σ[i] _ (List.getElem?_eq_getElem hl) hΓ
    exact ⟨v, by rw [List.getElem?_eq_getElem hl, hs], q H (Ex.refl H)⟩
theorem d_c {v : V} (h : PE X e (tC v)) (hv : sc d = some v) : PE X e (tD Z Γ 3 d) := pe_imp h fun σ H Q ⟨i, q⟩ => q v H (Ex.refl H) (sc_rep hv _)
theorem d_i {z : Int} {j} : PE X (.Constant (.int z) j pos) (tD Z Γ 3 (.int z)) := d_c pe_int rfl
theorem d_b {z : Bool} {j} : PE X (.Constant (.bool z) j pos) (tD Z Γ 3 (.bl z)) := d_c pe_bl rfl
theorem d_n {j} : PE X (.Constant .none j pos) (tD Z Γ 3 .non) := d_c pe_non rfl
theorem d_s {z : Str} {j} : PE X (.Constant (.str z) j pos) (tD Z Γ 3 (.str z)) := d_c pe_str rfl
theorem d_g {x : Str} {z : Int} {u : Value} (hm : X.mg x = some u) (hu : ∃ t, u = .int z t) (hg : Gl X x := by rfl) (hd : (x == ("__debug__" : Str)) = false := by decide) : PE X (.Name x pos) (tD Z Γ 3 (.int z)) :=
  d_c (pe_glob hg hm (v := .int z) hu hd) rfl

/-! ### two in a row -/
theorem two {t : TE} {t2 : TE} {σ : L2.St} {H : Hp} {R : V → V → Hp → Prop} (ha : ∀ Q, tD Z Γ ma da σ H Q → t σ H Q) (hb : ∀ H Q, tD Z Γ mb db σ H Q → t2 σ H Q) (i : Holds Z σ H Γ)
    (q : ∀ x y H', Ex H H' → Rep (rg ma (Z.O σ Γ) Z.h0 H H') x da → Rep (rg mb (Z.O σ Γ) Z.h0 H H') y db → R x y H') : t σ H fun x H1 => t2 σ H1 fun y H2 => R x y H2 :=
  ha _ ⟨i, fun x H1 e1 r1 => hb _ _ ⟨i.grow e1, fun y H2 e2 r2 => q x y H2 (e1.trans e2) (r1.mono (rg_ex (fun _ z => .inl z) (Ex.refl _) e2)) (r2.mono (rg_ex (fun _ z => .inl z) e1 (Ex.refl _)))⟩⟩
theorem imp_opS {σ : L2.St} {H : Hp} {Q : VK} {w : V} (hw : sc d = some w) (hr : ∀ H x y Q, Rep H x da → Rep H y db → Q w H → r x y H Q) (h : tD Z Γ 3 d σ H Q) : tOp r (tD Z Γ ma da) (tD Z Γ mb db) σ H Q :=
  two (fun Q q => q) (fun H Q q => q) h.1 fun x y H' e r1 r2 => hr H' x y Q (r1.mono rg_le) (r2.mono rg_le) (h.2 w H' e (sc_rep hw _))
/-- a op b, a scalar -/
theorem d_opS {op : Operator} {w : V} (ho : OpR X (binaryOp op) r) (hr : ∀ H x y Q, Rep H x da → Rep H y db → Q w H → r x y H Q) (hw : sc d = some w) (ha : PE X a (tD Z Γ ma da)) (hb : PE X b (tD Z Γ mb db)) : PE X (.BinOp a op b pos) (tD Z Γ 3 d) :=
  pe_imp (pe_op ho ha hb) fun σ H Q h => imp_opS hw hr h
theorem d_cmpS {op : CmpOp} {w : V} (ho : OpR X (compareOp op) r) (hr : ∀ H x y Q, Rep H x da → Rep H y db → Q w H → r x y H Q) (hw : sc d = some w) (ha : PE X a (tD Z Γ ma da)) (hb : PE X b (tD Z Γ mb db)) (hm : behindInMarks op b = false) : PE X (.Compare a [op] [b] pos) (tD Z Γ 3 d) :=
  pe_imp (pe_cmpR ho ha hb hm) fun σ H Q h => imp_opS hw hr h
theorem t_cmpS {op : CmpOp} {c : Bool} (ho : OpR X (compareOp op) r) (hr : ∀ H x y Q, Rep H x da → Rep H y db → Q (.bl c) H → r x y H Q) (ha : PE X a (tD Z Γ ma da)) (hb : PE X b (tD Z Γ mb db)) (hm : behindInMarks op b = false) : PT X (.Compare a [op] [b] pos) (tDT Z Γ c) :=
  pt_imp (pt_cmpR ho ha hb hm) fun σ H Q h => two (fun Q q => q) (fun H Q q => q) h.1 fun x y H' e r1 r2 => hr H' x y _ (r1.mono rg_le) (r2.mono rg_le) ⟨c, rfl, h.2 H' e⟩

/-! ### numbers -/
theorem rI0_hr {g : Int → Int → V} {i j : Int} {w : V} (hw : w = g i j) : ∀ H x y Q, Rep H x (.int i) → Rep H y (.int j) → Q w H → rI0 g x y H Q := fun H x y Q h1 h2 q => by
  cases h1; cases h2; subst hw; exact ⟨i, j, rfl, rfl, q⟩
theorem rI_hr {C : Int → Int → Prop} {g : Int → Int → V} {i j : Int} {w : V} (hc : C i j) (hw : w = g i j) : ∀ H x y Q, Rep H x (.int i) → Rep H y (.int j) → Q w H → rI C g x y H Q := fun H x y Q h1 h2 q => by
  cases h1; cases h2; subst hw; exact ⟨i, j, rfl, rfl, hc, q⟩
variable {i j : Int}
theorem d_add (ha : PE X a (tD Z Γ ma (.int i))) (hb : PE X b (tD Z Γ mb (.int j))) : PE X (.BinOp a .Add b pos) (tD Z Γ 3 (.int (i + j))) := d_opS op_add (rI0_hr rfl) rfl ha hb
theorem d_sub (ha : PE X a (tD Z Γ ma (.int i))) (hb : PE X b (tD Z Γ mb (.int j))) : PE X (.BinOp a .Sub b pos) (tD Z Γ 3 (.int (i - j))) := d_opS op_sub (rI0_hr rfl) rfl ha hb
theorem d_mul (ha : PE X a (tD Z Γ ma (.int i))) (hb : PE X b (tD Z Γ mb (.int j))) (hc : CMul i j) : PE X (.BinOp a .Mult b pos) (tD Z Γ 3 (.int (i * j))) := d_opS op_mul (rI_hr hc rfl) rfl ha hb
theorem d_mod (ha : PE X a (tD Z Γ ma (.int i))) (hb : PE X b (tD Z Γ mb (.int j))) (hc : 0 < j) : PE X (.BinOp a .Mod b pos) (tD Z Γ 3 (.int (i % j))) := d_opS op_mod (rI_hr hc rfl) rfl ha hb
theorem d_fdiv (ha : PE X a (tD Z Γ ma (.int i))) (hb : PE X b (tD Z Γ mb (.int j))) (hc : CDiv i j) : PE X (.BinOp a .FloorDiv b pos) (tD Z Γ 3 (.int (i / j))) := d_opS op_fdiv (rI_hr hc rfl) rfl ha hb
theorem d_pow (ha : PE X a (tD Z Γ ma (.int i))) (hb : PE X b (tD Z Γ mb (.int j))) (hc : CPow i j) : PE X (.BinOp a .Pow b pos) (tD Z Γ 3 (.int (i ^ j.toNat))) := d_opS op_pow (rI_hr hc rfl) rfl ha hb
theorem d_shl (ha : PE X a (tD Z Γ ma (.int i))) (hb : PE X b (tD Z Γ mb (.int j))) (hc : CPow i j) : PE X (.BinOp a .LShift b pos) (tD Z Γ 3 (.int (i * 2 ^ j.toNat))) := d_opS op_shl (rI_hr hc rfl) rfl ha hb
theorem d_shr (ha : PE X a (tD Z Γ ma (.int i))) (hb : PE X b (tD Z Γ mb (.int j))) (hc : 0 ≤ j) : PE X (.BinOp a .RShift b pos) (tD Z Γ 3 (.int (i / 2 ^ j.toNat))) := d_opS op_shr (rI_hr hc rfl) rfl ha hb
theorem d_bitand (ha : PE X a (tD Z Γ ma (.int i))) (hb : PE X b (tD Z Γ mb (.int j))) : PE X (.BinOp a .BitAnd b pos) (tD Z Γ 3 (.int (Builtin.bitAnd i j))) := d_opS op_and (rI0_hr rfl) rfl ha hb
theorem d_neg (ha : PE X a (tD Z Γ ma (.int i))) : PE X (.UnaryOp .USub a pos) (tD Z Γ 3 (.int (-i))) :=
  pe_imp (pe_un un_neg ha) fun σ H Q h => ⟨h.1, fun v H' e r => by cases r; exact ⟨i, rfl, h.2 _ H' e (.int _)⟩⟩

/-! ### comparisons of numbers: as values, as tests -/
theorem nm {op : CmpOp} (b : Expr) (h : op ≠ .In) (h2 : op ≠ .NotIn) : behindInMarks op b = false := nobehind b h h2
theorem d_lt (ha : PE X a (tD Z Γ ma (.int i))) (hb : PE X b (tD Z Γ mb (.int j))) : PE X (.Compare a [.Lt] [b] pos) (tD Z Γ 3 (.bl (decide (i < j)))) := d_cmpS op_lt (rI0_hr rfl) rfl ha hb (nm _ (by decide) (by decide))
theorem d_le (ha : PE X a (tD Z Γ ma (.int i))) (hb : PE X b (tD Z Γ mb (.int j))) : PE X (.Compare a [.LtE] [b] pos) (tD Z Γ 3 (.bl (decide (i ≤ j)))) := d_cmpS op_le (rI0_hr rfl) rfl ha hb (nm _ (by decide) (by decide))
theorem d_gt (ha : PE X a (tD Z Γ ma (.int i))) (hb : PE X b (tD Z Γ mb (.int j))) : PE X (.Compare a [.Gt] [b] pos) (tD Z Γ 3 (.bl (decide (j < i)))) := d_cmpS op_gt (rI0_hr rfl) rfl ha hb (nm _ (by decide) (by decide))
theorem d_ge (ha : PE X a (tD Z Γ ma (.int i))) (hb : PE X b (tD Z Γ mb (.int j))) : PE X (.Compare a [.GtE] [b] pos) (tD Z Γ 3 (.bl (decide (j ≤ i)))) := d_cmpS op_ge (rI0_hr rfl) rfl ha hb (nm _ (by decide) (by decide))
theorem rEq_hr : ∀ (H : Hp) (x y : V) (Q : VK), Rep H x (.int i) → Rep H y (.int j) → Q (.bl (decide (i = j))) H → rEq x y H Q := fun H x y Q h1 h2 q => by
  cases h1; cases h2
  refine ⟨rfl, ?_⟩
  have e : decide (V.int i = V.int j) = decide (i = j) := decide_eq_decide.mpr ⟨fun z => V.int.inj z, fun z => by rw [z]⟩
  rw [e]; exact q
theorem rNe_hr : ∀ (H : Hp) (x y : V) (Q : VK), Rep H x (.int i) → Rep H y (.int j) → Q (.bl (!decide (i = j))) H → rNe x y H Q := fun H x y Q h1 h2 q => by
  cases h1; cases h2
  refine ⟨rfl, ?_⟩
  have e : decide (V.int i = V.int j) = decide (i = j) := decide_eq_decide.mpr ⟨fun z => V.int.inj z, fun z => by rw [z]⟩
  rw [e]; exact q
theorem d_eqi (ha : PE X a (tD Z Γ ma (.int i))) (hb : PE X b (tD Z Γ mb (.int j))) : PE X (.Compare a [.Eq] [b] pos) (tD Z Γ 3 (.bl (decide (i = j)))) := d_cmpS op_eq rEq_hr rfl ha hb (nm _ (by decide) (by decide))
theorem d_nei (ha : PE X a (tD Z Γ ma (.int i))) (hb : PE X b (tD Z Γ mb (.int j))) : PE X (.Compare a [.NotEq] [b] pos) (tD Z Γ 3 (.bl (!decide (i = j)))) := d_cmpS op_ne rNe_hr rfl ha hb (nm _ (by decide) (by decide))
theorem t_lt (ha : PE X a (tD Z Γ ma (.int i))) (hb : PE X b (tD Z Γ mb (.int j))) : PT X (.Compare a [.Lt] [b] pos) (tDT Z Γ (decide (i < j))) := t_cmpS op_lt (rI0_hr rfl) ha hb (nm _ (by decide) (by decide))
theorem t_le (ha : PE X a (tD Z Γ ma (.int i))) (hb : PE X b (tD Z Γ mb (.int j))) : PT X (.Compare a [.LtE] [b] pos) (tDT Z Γ (decide (i ≤ j))) := t_cmpS op_le (rI0_hr rfl) ha hb (nm _ (by decide) (by decide))
theorem t_gt (ha : PE X a (tD Z Γ ma (.int i))) (hb : PE X b (tD Z Γ mb (.int j))) : PT X (.Compare a [.Gt] [b] pos) (tDT Z Γ (decide (j < i))) := t_cmpS op_gt (rI0_hr rfl) ha hb (nm _ (by decide) (by decide))
theorem t_ge (ha : PE X a (tD Z Γ ma (.int i))) (hb : PE X b (tD Z Γ mb (.int j))) : PT X (.Compare a [.GtE] [b] pos) (tDT Z Γ (decide (j ≤ i))) := t_cmpS op_ge (rI0_hr rfl) ha hb (nm _ (by decide) (by decide))
theorem t_eqi (ha : PE X a (tD Z Γ ma (.int i))) (hb : PE X b (tD Z Γ mb (.int j))) : PT X (.Compare a [.Eq] [b] pos) (tDT Z Γ (decide (i = j))) := t_cmpS op_eq rEq_hr ha hb (nm _ (by decide) (by decide))
theorem t_nei (ha : PE X a (tD Z Γ ma (.int i))) (hb : PE X b (tD Z Γ mb (.int j))) : PT X (.Compare a [.NotEq] [b] pos) (tDT Z Γ (!decide (i = j))) := t_cmpS op_ne rNe_hr ha hb (nm _ (by decide) (by decide))

/-! ### data compared at any depth -/
mutual
def toPy : D → PyData
  | .non => .none
  | .bl b => .bool b
  | .int i => .int i
  | .str x => .str x
  | .lst xs => .list (toPyL xs)
  | .tup xs => .tuple (toPyL xs)
  | .emp => .none
  | .obj _ _ _ => .none
def toPyL : List D → List PyData
  | [] => []
  | x :: xs => toPy x :: toPyL xs
end
mutual
def pln : D → Bool
  | .non => true
  | .bl _ => true
  | .int _ => true
  | .str _ => true
  | .lst xs => plnL xs
  | .tup xs => plnL xs
  | .emp => false
  | .obj _ _ _ => false
def plnL : List D → Bool
  | [] => true
  | x :: xs => pln x && plnL xs
end
mutual
theorem Rep.dp {K : PySem.W.Frag} {H : Hp} : ∀ {v : V} {d : D}, Rep H v d → pln d = true → Dp K H v (toPy d)
  | _, _, .non, _ => .non
  | _, _, .bl b, _ => .bl b
  | _, _, .int i, _ => .int i
  | _, _, .str x, _ => .str x
  | _, _, .lst h hs, p => .lst (.of h) (RepL.dp hs p)
  | _, _, .tup h hs, p => .tup (.of h) (RepL.dp hs p)
  | _, _, .emp h, p => by cases p
  | _, _, .obj h _ _, p => by cases p
theorem RepL.dp {K : PySem.W.Frag} {H : Hp} : ∀ {vs : List V} {ds : List D}, RepL H vs ds → plnL ds = true → DpAll K H vs (toPyL ds)
  | _, _, .nil, _ => .nil
  | _, _, .cons h hs, p => by
    have p' := (Bool.and_eq_true_iff.mp (show (_ && _) = true from p))
    exact .cons (Rep.dp h p'.1) (RepL.dp hs p'.2)
end
/-- data that may be compared -/
def eqOk (d : D) : Bool := pln d && SeqAt.shaped (toPy d)
def deq (d e : D) : Bool := PyData.eqv (toPy d) (toPy e)
theorem rEqD_hr {K : PySem.W.Frag} (h1 : eqOk da = true) (h2 : eqOk db = true) : ∀ (H : Hp) (x y : V) (Q : VK), Rep H x da → Rep H y db → Q (.bl (deq da db)) H → rEqD K x y H Q := fun H x y Q r1 r2 q => by
  obtain ⟨p1, s1⟩ := Bool.and_eq_true_iff.mp h1
  obtain ⟨p2, s2⟩ := Bool.and_eq_true_iff.mp h2
  exact ⟨_, _, r1.dp p1, r2.dp p2, s1, s2, q⟩
theorem rNeD_hr {K : PySem.W.Frag} (h1 : eqOk da = true) (h2 : eqOk db = true) : ∀ (H : Hp) (x y : V) (Q : VK), Rep H x da → Rep H y db → Q (.bl (!deq da db)) H → rNeD K x y H Q := fun H x y Q r1 r2 q => by
  obtain ⟨p1, s1⟩ := Bool.and_eq_true_iff.mp h1
  obtain ⟨p2, s2⟩ := Bool.and_eq_true_iff.mp h2
  exact ⟨_, _, r1.dp p1, r2.dp p2, s1, s2, q⟩
theorem d_deq (hu : X.A.units + 64 < cLine) (ha : PE X a (tD Z Γ ma da)) (hb : PE X b (tD Z Γ mb db)) (h1 : eqOk da = true) (h2 : eqOk db = true) : PE X (.Compare a [.Eq] [b] pos) (tD Z Γ 3 (.bl (deq da db))) := d_cmpS (op_eqD hu) (rEqD_hr h1 h2) rfl ha hb (nm _ (by decide) (by decide))
theorem d_dne (hu : X.A.units + 64 < cLine) (ha : PE X a (tD Z Γ ma da)) (hb : PE X b (tD Z Γ mb db)) (h1 : eqOk da = true) (h2 : eqOk db = true) : PE X (.Compare a [.NotEq] [b] pos) (tD Z Γ 3 (.bl (!deq da db))) := d_cmpS (op_neD hu) (rNeD_hr h1 h2) rfl ha hb (nm _ (by decide) (by decide))
theorem t_deq (hu : X.A.units + 64 < cLine) (ha : PE X a (tD Z Γ ma da)) (hb : PE X b (tD Z Γ mb db)) (h1 : eqOk da = true) (h2 : eqOk db = true) : PT X (.Compare a [.Eq] [b] pos) (tDT Z Γ (deq da db)) := t_cmpS (op_eqD hu) (rEqD_hr h1 h2) ha hb (nm _ (by decide) (by decide))
theorem t_dne (hu : X.A.units + 64 < cLine) (ha : PE X a (tD Z Γ ma da)) (hb : PE X b (tD Z Γ mb db)) (h1 : eqOk da = true) (h2 : eqOk db = true) : PT X (.Compare a [.NotEq] [b] pos) (tDT Z Γ (!deq da db)) := t_cmpS (op_neD hu) (rNeD_hr h1 h2) ha hb (nm _ (by decide) (by decide))

/-! ### is None -/
def isNon : D → Bool
  | .non => true
  | _ => false
theorem rep_non {H : Hp} {v : V} (r : Rep H v d) : decide (v = .non) = isNon d := by
  cases r <;> simp [isNon]
theorem d_isN {j p'} (ha : PE X a (tD Z Γ ma da)) : PE X (.Compare a [.Is] [.Constant .none j p'] pos) (tD Z Γ 3 (.bl (isNon da))) :=
  pe_imp (pe_cmp (pc_isN ha) rfl) fun σ H Q h => ⟨h.1, fun v H' e r => by
    have q := h.2 _ H' e (.bl _)
    rw [← rep_non r] at q
    exact q⟩
theorem d_notN {j p'} (ha : PE X a (tD Z Γ ma da)) : PE X (.Compare a [.IsNot] [.Constant .none j p'] pos) (tD Z Γ 3 (.bl (!isNon da))) :=
  pe_imp (pe_cmp (pc_notN ha) rfl) fun σ H Q h => ⟨h.1, fun v H' e r => by
    have q := h.2 _ H' e (.bl _)
    rw [← rep_non r] at q
    exact q⟩

/-! ### truth values joined -/
theorem d_and1 {p : Bool} (ha : PE X a (tD Z Γ ma (.bl p))) : PE X (.BoolOp .And [a] pos) (tD Z Γ ma (.bl p)) := pe_one ha
theorem d_or1 {p : Bool} (ha : PE X a (tD Z Γ ma (.bl p))) : PE X (.BoolOp .Or [a] pos) (tD Z Γ ma (.bl p)) := pe_one ha
theorem d_and {p q : Bool} {rest : List Expr} (ha : PE X a (tD Z Γ ma (.bl p))) (hb : p = true → PE X (.BoolOp .And (b :: rest) pos) (tD Z Γ mb (.bl q))) : PE X (.BoolOp .And (a :: b :: rest) pos) (tD Z Γ 3 (.bl (p && q))) := by
  cases p with
  | true =>
    refine pe_imp (pe_and ha (hb rfl)) fun σ H Q h => ⟨h.1, fun v H' e r => ?_⟩
    cases r
    exact ⟨true, rfl, iteT ⟨h.1.grow e, fun w H2 e2 r2 => by cases r2; exact h.2 _ H2 (e.trans e2) (.bl _)⟩⟩
  | false =>
    refine pe_imp (pe_and (tb := fun _ _ _ => False) ha (pe_no fun _ _ _ z => z)) fun σ H Q h => ⟨h.1, fun v H' e r => ?_⟩
    cases r
    exact ⟨false, rfl, by rw [if_neg Bool.false_ne_true]; exact h.2 _ H' e (.bl _)⟩
theorem d_or {p q : Bool} {rest : List Expr} (ha : PE X a (tD Z Γ ma (.bl p))) (hb : p = false → PE X (.BoolOp .Or (b :: rest) pos) (tD Z Γ mb (.bl q))) : PE X (.BoolOp .Or (a :: b :: rest) pos) (tD Z Γ 3 (.bl (p || q))) := by
  cases p with
  | false =>
    refine pe_imp (pe_or ha (hb rfl)) fun σ H Q h => ⟨h.1, fun v H' e r => ?_⟩
    cases r
    exact ⟨false, rfl, iteF ⟨h.1.grow e, fun w H2 e2 r2 => by cases r2; exact h.2 _ H2 (e.trans e2) (.bl _)⟩⟩
  | true =>
    refine pe_imp (pe_or (tb := fun _ _ _ => False) ha (pe_no fun _ _ _ z => z)) fun σ H Q h => ⟨h.1, fun v H' e r => ?_⟩
    cases r
    exact ⟨true, rfl, by rw [if_pos rfl]; exact h.2 _ H' e (.bl _)⟩
theorem d_not {p : Bool} (ha : PE X a (tD Z Γ ma (.bl p))) : PE X (.UnaryOp .Not a pos) (tD Z Γ 3 (.bl (!p))) :=
  pe_imp (pe_not ha) fun σ H Q h => ⟨h.1, fun v H' e r => by cases r; exact ⟨p, rfl, h.2 _ H' e (.bl _)⟩⟩
/-- tests -/
theorem t_val {p : Bool} (h : PE X e (tD Z Γ m (.bl p))) (he : ∀ whole, isTrue e X.env whole = (do let v ← whole; standAt e.pos; holding [v] (truthy v)) := by intro _; rfl) : PT X e (tDT Z Γ p) :=
  pt_imp (pt_val h he) fun σ H Q h => ⟨h.1, fun v H' e r => by cases r; exact ⟨p, rfl, h.2 H' e⟩⟩
theorem t_not {p : Bool} (h : PT X a (tDT Z Γ p)) : PT X (.UnaryOp .Not a pos) (tDT Z Γ (!p)) := pt_imp (pt_not h) fun σ H Q h => ⟨h.1, fun H' e => h.2 H' e⟩
theorem w_and1 {p : Bool} (h : PT X a (tDT Z Γ p)) : PW X (.BoolOp .And [a] pos) (tDT Z Γ p) := pw_and1 h
theorem w_or1 {p : Bool} (h : PT X a (tDT Z Γ p)) : PW X (.BoolOp .Or [a] pos) (tDT Z Γ p) := pw_or1 h
theorem w_and {p q : Bool} {rest : List Expr} (ha : PT X a (tDT Z Γ p)) (hb : p = true → PW X (.BoolOp .And (b :: rest) pos) (tDT Z Γ q)) : PW X (.BoolOp .And (a :: b :: rest) pos) (tDT Z Γ (p && q)) := by
  cases p with
  | true => exact pw_imp (pw_and ha (hb rfl)) fun σ H Q h => ⟨h.1, fun H' e => iteT ⟨h.1.grow e, fun H2 e2 => h.2 H2 (e.trans e2)⟩⟩
  | false => exact pw_imp (pw_and (tB' := fun _ _ _ => False) ha (pw_no fun _ _ _ z => z)) fun σ H Q h => ⟨h.1, fun H' e => iteF (h.2 H' e)⟩
theorem w_or {p q : Bool} {rest : List Expr} (ha : PT X a (tDT Z Γ p)) (hb : p = false → PW X (.BoolOp .Or (b :: rest) pos) (tDT Z Γ q)) : PW X (.BoolOp .Or (a :: b :: rest) pos) (tDT Z Γ (p || q)) := by
  cases p with
  | false => exact pw_imp (pw_or ha (hb rfl)) fun σ H Q h => ⟨h.1, fun H' e => iteF ⟨h.1.grow e, fun H2 e2 => h.2 H2 (e.trans e2)⟩⟩
  | true => exact pw_imp (pw_or (tB' := fun _ _ _ => False) ha (pw_no fun _ _ _ z => z)) fun σ H Q h => ⟨h.1, fun H' e => iteT (h.2 H' e)⟩
theorem t_bool {p : Bool} (h : PW X e (tDT Z Γ p)) : PT X e (tDT Z Γ p) := h.pt
theorem d_if {c : Expr} {p : Bool} (hc : PT X c (tDT Z Γ p)) (ha : p = true → PE X a (tD Z Γ m da)) (hb : p = false → PE X b (tD Z Γ m db)) : PE X (.IfExp c a b pos) (tD Z Γ m (if p then da else db)) := by
  cases p with
  | true => exact pe_imp (pe_ifExp (tb := fun _ _ _ => False) hc (ha rfl) (pe_no fun _ _ _ z => z)) fun σ H Q h => ⟨h.1, fun H' e => iteT ⟨h.1.grow e, fun v H2 e2 r => h.2 v H2 (e.trans e2) (r.mono (rg_ex (fun _ z => .inl z) e (Ex.refl _)))⟩⟩
  | false => exact pe_imp (pe_ifExp (ta := fun _ _ _ => False) hc (pe_no fun _ _ _ z => z) (hb rfl)) fun σ H Q h => ⟨h.1, fun H' e => iteF ⟨h.1.grow e, fun v H2 e2 r => h.2 v H2 (e.trans e2) (r.mono (rg_ex (fun _ z => .inl z) e (Ex.refl _)))⟩⟩
/-- a chain of two comparisons of numbers -/
theorem d_chain {op op' : CmpOp} {r' : R2} {c : Expr} {mc : Nat} {dc : D} {p q : Bool} (ho : OpR X (compareOp op) r) (ho' : OpR X (compareOp op') r') (hr : ∀ H x y Q, Rep H x da → Rep H y db → Q (.bl p) H → r x y H Q) (hr' : ∀ H x y Q, Rep H x db → Rep H y dc → Q (.bl q) H → r' x y H Q) (hmk : lastMarks [op, op'] [b, c] = false)
    (ha : PE X a (tD Z Γ ma da)) (hb : PE X b (tD Z Γ mb db)) (hc : PE X c (tD Z Γ mc dc)) : PE X (.Compare a [op, op'] [b, c] pos) (tD Z Γ 3 (.bl (p && q))) :=
  pe_imp (pe_chain ho ho' ha hb hc hmk) fun σ H Q h => two (fun Q q => q) (fun H Q q => q) h.1 fun x y H' e r1 r2 => hr H' x y _ (r1.mono rg_le) (r2.mono rg_le) ⟨p, rfl, by
    cases p with
    | true =>
      rw [if_pos rfl]
      exact ⟨h.1.grow e, fun z H2 e2 r3 => hr' H2 y z _ ((r2.mono rg_le).mono e2) (r3.mono rg_le) (h.2 _ H2 (e.trans e2) (.bl _))⟩
    | false => rw [if_neg Bool.false_ne_true]; exact h.2 _ H' e (.bl _)⟩
theorem d_lele {c : Expr} {mc : Nat} {k : Int} (ha : PE X a (tD Z Γ ma (.int i))) (hb : PE X b (tD Z Γ mb (.int j))) (hc : PE X c (tD Z Γ mc (.int k))) (hmk : lastMarks [CmpOp.LtE, CmpOp.LtE] [b, c] = false := by rfl) : PE X (.Compare a [.LtE, .LtE] [b, c] pos) (tD Z Γ 3 (.bl (decide (i ≤ j) && decide (j ≤ k)))) :=
  d_chain op_le op_le (rI0_hr rfl) (rI0_hr rfl) hmk ha hb hc
theorem d_lelt {c : Expr} {mc : Nat} {k : Int} (ha : PE X a (tD Z Γ ma (.int i))) (hb : PE X b (tD Z Γ mb (.int j))) (hc : PE X c (tD Z Γ mc (.int k))) (hmk : lastMarks [CmpOp.LtE, CmpOp.Lt] [b, c] = false := by rfl) : PE X (.Compare a [.LtE, .Lt] [b, c] pos) (tD Z Γ 3 (.bl (decide (i ≤ j) && decide (j < k)))) :=
  d_chain op_le op_lt (rI0_hr rfl) (rI0_hr rfl) hmk ha hb hc
theorem t_chain {op op' : CmpOp} {r' : R2} {c : Expr} {mc : Nat} {dc : D} {p q : Bool} (ho : OpR X (compareOp op) r) (ho' : OpR X (compareOp op') r') (hr : ∀ H x y Q, Rep H x da → Rep H y db → Q (.bl p) H → r x y H Q) (hr' : ∀ H x y Q, Rep H x db → Rep H y dc → Q (.bl q) H → r' x y H Q) (hmk : lastMarks [op, op'] [b, c] = false)
    (ha : PE X a (tD Z Γ ma da)) (hb : PE X b (tD Z Γ mb db)) (hc : PE X c (tD Z Γ mc dc)) : PT X (.Compare a [op, op'] [b, c] pos) (tDT Z Γ (p && q)) :=
  pt_imp (pt_chain ho ho' ha hb hc hmk) fun σ H Q h => two (fun Q q => q) (fun H Q q => q) h.1 fun x y H' e r1 r2 => hr H' x y _ (r1.mono rg_le) (r2.mono rg_le) ⟨p, rfl, by
    cases p with
    | true =>
      rw [if_pos rfl]
      exact ⟨h.1.grow e, fun z H2 e2 r3 => hr' H2 y z _ ((r2.mono rg_le).mono e2) (r3.mono rg_le) ⟨q, rfl, h.2 H2 (e.trans e2)⟩⟩
    | false => rw [if_neg Bool.false_ne_true]; exact ⟨false, rfl, h.2 H' e⟩⟩
theorem t_lele {c : Expr} {mc : Nat} {k : Int} (ha : PE X a (tD Z Γ ma (.int i))) (hb : PE X b (tD Z Γ mb (.int j))) (hc : PE X c (tD Z Γ mc (.int k))) (hmk : lastMarks [CmpOp.LtE, CmpOp.LtE] [b, c] = false := by rfl) : PT X (.Compare a [.LtE, .LtE] [b, c] pos) (tDT Z Γ (decide (i ≤ j) && decide (j ≤ k))) :=
  t_chain op_le op_le (rI0_hr rfl) (rI0_hr rfl) hmk ha hb hc
theorem t_lelt {c : Expr} {mc : Nat} {k : Int} (ha : PE X a (tD Z Γ ma (.int i))) (hb : PE X b (tD Z Γ mb (.int j))) (hc : PE X c (tD Z Γ mc (.int k))) (hmk : lastMarks [CmpOp.LtE, CmpOp.Lt] [b, c] = false := by rfl) : PT X (.Compare a [.LtE, .Lt] [b, c] pos) (tDT Z Γ (decide (i ≤ j) && decide (j < k))) :=
  t_chain op_le op_lt (rI0_hr rfl) (rI0_hr rfl) hmk ha hb hc

/-! ### arguments, displays -/
theorem a_nil : PA X [] (tDA Z Γ 3 []) := pa_imp pa_nil fun σ H Q h => h.2 [] H (Ex.refl H) .nil
theorem a_cons {es : List Expr} (he : PE X e (tD Z Γ ma d)) (hs : PA X es (tDA Z Γ mb ds)) (h : starEach (e :: es) X.env = (false, eval e X.env) :: starEach es X.env := by rfl) : PA X (e :: es) (tDA Z Γ (min ma mb) (d :: ds)) :=
  pa_imp (pa_cons he hs h) fun σ H Q h => ⟨h.1, fun x H1 e1 r1 => ⟨h.1.grow e1, fun vs H2 e2 r2 => h.2 (x :: vs) H2 (e1.trans e2)
    (.cons ((r1.mono (rg_ex (fun _ z => .inl z) (Ex.refl _) e2)).mono (rg_down (Nat.min_le_left _ _) h.1.h0x)) ((r2.mono (rg_ex (fun _ z => .inl z) e1 (Ex.refl _))).mono (rg_down (Nat.min_le_right _ _) h.1.h0x)))⟩⟩
theorem a_w {es : List Expr} (h : PA X es (tDA Z Γ m' ds)) (hm : m ≤ m') : PA X es (tDA Z Γ m ds) :=
  pa_imp h fun σ H Q ⟨i, q⟩ => ⟨i, fun v H' e r => q v H' e (r.mono (rg_down hm i.h0x))⟩
/-- a new object at p is in every region -/
theorem rg_new {O : List Addr} {H0 Hs H : Hp} {p : Addr} {o : HO} (hO : ∀ a ∈ O, H a ≠ none) (h0 : Ex H0 H) (hs : Ex Hs H) (hp : H p = none) (hnt : ntb o := by exact trivial) : rg m O H0 Hs (upd H p o) p = some o := by
  have hO' : p ∉ O := fun z => hO p z hp
  match m with
  | 0 => exact nt_at upd_same hnt
  | 1 => show reg O hn _ p = _; exact reg_has hO' rfl upd_same hnt
  | 2 => show reg O H0 _ p = _; exact reg_has hO' (Ex.free h0 hp) upd_same hnt
  | _ + 3 => show reg O Hs _ p = _; exact reg_has hO' (Ex.free hs hp) upd_same hnt
theorem d_lst {es : List Expr} (h : PA X es (tDA Z Γ m ds)) (hl : ds.length ≤ sizeLine) : PE X (.List es pos) (tD Z Γ m (.lst ds)) :=
  pe_imp (pe_lst h) fun σ H Q k => ⟨k.1, fun vs H1 e1 r1 => ⟨by rw [r1.length]; exact hl, fun p hp => k.2 (.ref p) _ (e1.trans (Ex.new hp)) (.lst (rg_new (k.1.grow e1).dom (k.1.grow e1).h0x e1 hp) (r1.mono (rg_ex (fun _ z => .inl z) (Ex.refl _) (Ex.new hp))))⟩⟩
theorem d_tup {es : List Expr} {k : Nat} (h : PA X es (tDA Z Γ m ds)) (hl : ds.length ≤ sizeLine) : PE X (.Tuple es k pos) (tD Z Γ m (.tup ds)) :=
  pe_imp (pe_tup h) fun σ H Q k => ⟨k.1, fun vs H1 e1 r1 => ⟨by rw [r1.length]; exact hl, fun p hp => k.2 (.ref p) _ (e1.trans (Ex.new hp)) (.tup (rg_new (k.1.grow e1).dom (k.1.grow e1).h0x e1 hp) (r1.mono (rg_ex (fun _ z => .inl z) (Ex.refl _) (Ex.new hp))))⟩⟩

/-! ### subscripts and slices -/
theorem atI_rep {R : Hp} {vs : List V} {k : Int} (r : RepL R vs ds) (h : (ixN ds.length k).bind (fun j => ds[j]?) = some d) : ∃ v, atI vs k = some v ∧ Rep R v d := by
  unfold atI
  rw [r.length]
  cases e : ixN ds.length k with
  | none => rw [e] at h; cases h
  | some j =>
    rw [e] at h
    exact r.getD h
/-- xs[k] of a list -/
theorem d_ixL {k : Int} (ha : PE X a (tD Z Γ ma (.lst ds))) (hb : PE X b (tD Z Γ mb (.int k))) (hx : (ixN ds.length k).bind (fun j => ds[j]?) = some d) (hs : PlainIx b := by exact fun _ _ => rfl) : PE X (.Subscript a b pos) (tD Z Γ ma d) :=
  pe_imp (pe_ix ix_list ha hb hs) fun σ H Q h => two (fun Q q => q) (fun H Q q => q) h.1 fun x y H' e r1 r2 => by
    cases r2
    cases r1 with
    | lst h1 h2 =>
      obtain ⟨v, e2, r⟩ := atI_rep h2 hx
      exact ⟨_, _, k, v, rfl, rfl, .of (rg_le _ _ h1), e2, h.2 v H' e r⟩
theorem d_ixT {k : Int} (ha : PE X a (tD Z Γ ma (.tup ds))) (hb : PE X b (tD Z Γ mb (.int k))) (hx : (ixN ds.length k).bind (fun j => ds[j]?) = some d) (hs : PlainIx b := by exact fun _ _ => rfl) : PE X (.Subscript a b pos) (tD Z Γ ma d) :=
  pe_imp (pe_ix ix_tup ha hb hs) fun σ H Q h => two (fun Q q => q) (fun H Q q => q) h.1 fun x y H' e r1 r2 => by
    cases r2
    cases r1 with
    | tup h1 h2 =>
      obtain ⟨v, e2, r⟩ := atI_rep h2 hx
      exact ⟨_, _, k, v, rfl, rfl, .of (rg_le _ _ h1), e2, h.2 v H' e r⟩
def cutD (xs : List D) (lo hi : Option Int) : List D := (xs.drop (HT.sIx xs.length 0 lo)).take (HT.sIx xs.length xs.length hi - HT.sIx xs.length 0 lo)
theorem RepL.cut {R : Hp} {vs : List V} (r : RepL R vs ds) (lo hi : Option Int) : RepL R (cutV vs lo hi) (cutD ds lo hi) := by
  unfold cutV cutD
  rw [r.length]
  exact (r.drop _).take _
def tDO (Z : Fr) (Γ : List SV) (o : Option Int) : TO := fun σ H Q => Holds Z σ H Γ ∧ ∀ H', Ex H H' → Q o H'
theorem po_imp {oe : Option Expr} {t t' : TO} (h : PO X oe t) (i : ∀ σ H Q, t' σ H Q → t σ H Q) : PO X oe t' := ⟨fun pins s σ H Q I q => h.run pins s σ H Q I (i σ H Q q)⟩
theorem o_none : PO X none (tDO Z Γ none) := po_imp po_none fun σ H Q h => h.2 H (Ex.refl H)
theorem o_some {k : Int} (h : PE X e (tD Z Γ m (.int k))) : PO X (some e) (tDO Z Γ (some k)) := po_imp (po_some h) fun σ H Q q => ⟨q.1, fun v H' e r => by cases r; exact ⟨k, rfl, q.2 H' e⟩⟩
theorem d_slL {lo hi : Option Expr} {kl kh : Option Int} {p2 : Pos} (h : PE X e (tD Z Γ m (.lst ds))) (hl : PO X lo (tDO Z Γ kl)) (hh : PO X hi (tDO Z Γ kh)) : PE X (.Subscript e (.Slice lo hi none p2) pos) (tD Z Γ m (.lst (cutD ds kl kh))) :=
  pe_imp (pe_slice sl_list h hl hh) fun σ H Q k => ⟨k.1, fun x H1 e1 r => ⟨k.1.grow e1, fun H2 e2 => ⟨k.1.grow (e1.trans e2), fun H3 e3 => by
    cases r with
    | lst h1 h2 =>
      have e13 := e2.trans e3
      have e03 := e1.trans e13
      refine ⟨_, _, rfl, .of (e13 _ _ (rg_le _ _ h1)), fun p hp => ?_⟩
      refine k.2 (.ref p) _ (e03.trans (Ex.new hp)) (.lst (rg_new (k.1.grow e03).dom (k.1.grow e03).h0x e03 hp) ?_)
      exact (h2.cut kl kh).mono (rg_ex (fun _ z => .inl z) (Ex.refl _) (e13.trans (Ex.new hp)))⟩⟩⟩
end
end DL

set_option Elab.async false
set_option linter.all false
set_option maxRecDepth 100000
/-! DL3: calls, statements, loops, comprehensions over an environment of data. -/
namespace DL
open PySem L2

section
variable {X : Cx} {e a b : Expr} {pos : Pos} {Z : Fr} {Γ : List SV} {m m' ma mb : Nat} {d da db : D} {ds es : List D}
/-! ### what is new is in every region -/
theorem rg_news {O : List Addr} {H0 Hs H H' : Hp} {p : Addr} {o : HO} (hO : ∀ a ∈ O, H a ≠ none) (h0 : Ex H0 H) (hs : Ex Hs H) (hp : H p = none) (h' : H' p = some o) (hnt : ntb o := by exact trivial) : rg m O H0 Hs H' p = some o := by
  have hO' : p ∉ O := fun z => hO p z hp
  match m with
  | 0 => exact nt_at h' hnt
  | 1 => show reg O hn _ p = _; exact reg_has hO' rfl h' hnt
  | 2 => show reg O H0 _ p = _; exact reg_has hO' (Ex.free h0 hp) h' hnt
  | _ + 3 => show reg O Hs _ p = _; exact reg_has hO' (Ex.free hs hp) h' hnt
theorem rg_fresh {O : List Addr} {H0 Hs H H' : Hp} (hO : ∀ a ∈ O, H a ≠ none) (h0 : Ex H0 H) (hs : Ex Hs H) : Ex (reg [] H H') (rg m O H0 Hs H') := fun a o e => by
  obtain ⟨_, h2, h3, h4⟩ := reg_some4 e
  exact rg_news hO h0 hs h2 h3 h4

/-! ### built-ins by their meaning -/
/-- a scalar comes -/
def MeanS (r : List V → Hp → VK → Prop) (ds : List D) (w : V) : Prop := ∀ H vs Q, RepL H vs ds → Q w H → r vs H Q
/-- data over what was handed in -/
def Mean (r : List V → Hp → VK → Prop) (ds : List D) (d : D) : Prop := ∀ H R vs Q, Ex R H → RepL R vs ds → (∀ v H', Ex H H' → (∀ R', Ex R R' → Ex (reg [] H H') R' → Rep R' v d) → Q v H') → r vs H Q
/-- new data -/
def MeanN (r : List V → Hp → VK → Prop) (ds : List D) (d : D) : Prop := ∀ H vs Q, RepL H vs ds → (∀ v H', Ex H H' → Rep (reg [] H H') v d → Q v H') → r vs H Q
theorem d_cb {r : List V → Hp → VK → Prop} {x : Str} {p : Pos} {id : String} {es : List Expr} (hc : CallR X (.builtin id) r) (hm : X.mg x = none) (hr : Mean r ds d) (ha : PA X (e :: es) (tDA Z Γ m ds)) (hv : bootBuiltins x = some (.builtin id) := by decide +kernel) (hg : Gl X x := by rfl)
    (hn : x ≠ "__name__" := by decide) (hdb : (x == ("__debug__" : Str)) = false := by decide) (he : starEach (e :: es) X.env = (false, eval e X.env) :: starEach es X.env := by rfl) (hpl : (backTo pos (starEach es X.env)).any (·.1) = false := by rfl) :
    PE X (.Call (.Name x p) (e :: es) [] pos) (tD Z Γ m d) :=
  pe_imp (pe_callB hc hg hm hv ha hn hdb he hpl) fun σ H Q h => ⟨h.1, fun vs H1 e1 r1 => hr H1 _ vs Q rg_le r1 fun v H2 e2 k => h.2 v H2 (e1.trans e2)
    (k _ (rg_ex (fun _ z => .inl z) (Ex.refl _) e2) (rg_fresh (h.1.grow e1).dom (h.1.grow e1).h0x e1))⟩
theorem d_cbS {r : List V → Hp → VK → Prop} {x : Str} {p : Pos} {id : String} {es : List Expr} {w : V} (hc : CallR X (.builtin id) r) (hm : X.mg x = none) (hr : MeanS r ds w) (hw : sc d = some w) (ha : PA X (e :: es) (tDA Z Γ m ds)) (hv : bootBuiltins x = some (.builtin id) := by decide +kernel) (hg : Gl X x := by rfl)
    (hn : x ≠ "__name__" := by decide) (hdb : (x == ("__debug__" : Str)) = false := by decide) (he : starEach (e :: es) X.env = (false, eval e X.env) :: starEach es X.env := by rfl) (hpl : (backTo pos (starEach es X.env)).any (·.1) = false := by rfl) :
    PE X (.Call (.Name x p) (e :: es) [] pos) (tD Z Γ 3 d) :=
  pe_imp (pe_callB hc hg hm hv ha hn hdb he hpl) fun σ H Q h => ⟨h.1, fun vs H1 e1 r1 => hr H1 vs Q (r1.mono rg_le) (h.2 w H1 e1 (sc_rep hw _))⟩
theorem d_cbN {r : List V → Hp → VK → Prop} {x : Str} {p : Pos} {id : String} {es : List Expr} (hc : CallR X (.builtin id) r) (hm : X.mg x = none) (hr : MeanN r ds d) (ha : PA X (e :: es) (tDA Z Γ m ds)) (hv : bootBuiltins x = some (.builtin id) := by decide +kernel) (hg : Gl X x := by rfl)
    (hn : x ≠ "__name__" := by decide) (hdb : (x == ("__debug__" : Str)) = false := by decide) (he : starEach (e :: es) X.env = (false, eval e X.env) :: starEach es X.env := by rfl) (hpl : (backTo pos (starEach es X.env)).any (·.1) = false := by rfl) :
    PE X (.Call (.Name x p) (e :: es) [] pos) (tD Z Γ 3 d) :=
  pe_imp (pe_callB hc hg hm hv ha hn hdb he hpl) fun σ H Q h => ⟨h.1, fun vs H1 e1 r1 => hr H1 vs Q (r1.mono rg_le) fun v H2 e2 k => h.2 v H2 (e1.trans e2)
    (k.mono (rg_fresh (h.1.grow e1).dom (h.1.grow e1).h0x e1))⟩
/-- of a built-in class -/
theorem d_ct {r : List V → Hp → VK → Prop} {x : Str} {p : Pos} {T : String} {es : List Expr} (hc : CallR X (.type T) r) (hm : X.mg x = none) (hr : Mean r ds d) (ha : PA X (e :: es) (tDA Z Γ m ds)) (hv : bootBuiltins x = some (.type T) := by decide +kernel) (hg : Gl X x := by rfl)
    (hn : x ≠ "__name__" := by decide) (hdb : (x == ("__debug__" : Str)) = false := by decide) (he : starEach (e :: es) X.env = (false, eval e X.env) :: starEach es X.env := by rfl) (hpl : (backTo pos (starEach es X.env)).any (·.1) = false := by rfl) :
    PE X (.Call (.Name x p) (e :: es) [] pos) (tD Z Γ m d) :=
  pe_imp (pe_callTy hc hg hm hv ha hn hdb he hpl) fun σ H Q h => ⟨h.1, fun vs H1 e1 r1 => hr H1 _ vs Q rg_le r1 fun v H2 e2 k => h.2 v H2 (e1.trans e2)
    (k _ (rg_ex (fun _ z => .inl z) (Ex.refl _) e2) (rg_fresh (h.1.grow e1).dom (h.1.grow e1).h0x e1))⟩

/-! ### calls of defs -/
def Gives (sp : Sp) (ds : List D) (d : D) : Prop := ∀ vs H Q E, RepL H vs ds → (∀ v H', Ex H H' → Rep (reg [] H H') v d → Q v H') → sp vs H Q E
def Fails (sp : Sp) (ds : List D) (C : Addr) : Prop := ∀ vs H Q (E : XK), RepL H vs ds → (∀ H', Ex H H' → E (.ref C) none H') → sp vs H Q E
theorem d_call {CX : CXT} {k : Nat} {f : Addr} {fd : FuncData} {ps : List Str} {sp : Sp} {E : XK} {x : Str} {p : Pos} {es : List Expr} (F : FnOk X.prog X.w X.K X.mg X.base CX k f fd ps sp) (hr : Room k X.A) (hm : X.mg x = some (.ref f)) (hk : PySem.W.keepIn X.K (.ref f) = true) (hb : Binds X.K fd ps []) (hx : Passes CX X E)
    (hG : Gives sp ds d) (ha : PA X (e :: es) (tDA Z Γ m ds)) (hg : Gl X x := by rfl) (hdb : (x == ("__debug__" : Str)) = false := by decide) (he : starEach (e :: es) X.env = (false, eval e X.env) :: starEach es X.env := by rfl) (hpl : (backTo pos (starEach es X.env)).any (·.1) = false := by rfl) :
    PE X (.Call (.Name x p) (e :: es) [] pos) (tD Z Γ 3 d) :=
  pe_imp (pe_call F hr hg hm hk hb .nil hx ha hdb he hpl) fun σ H Q h => ⟨h.1, fun vs H1 e1 r1 => hG _ H1 Q E (by rw [List.append_nil]; exact r1.mono rg_le) fun v H2 e2 k => h.2 v H2 (e1.trans e2)
    (k.mono (rg_fresh (h.1.grow e1).dom (h.1.grow e1).h0x e1))⟩
/-- a def's promise: from a datum's arguments under pre to a new result -/
def Pur {α : Type} (arg : α → List D) (pre : α → Prop) (res : α → D) : Sp := fun vs H Q _ => ∃ a, RepL H vs (arg a) ∧ pre a ∧ ∀ v H', Ex H H' → Rep (reg [] H H') v (res a) → Q v H'
theorem Pur.gives {α : Type} {arg : α → List D} {pre : α → Prop} {res : α → D} (a : α) (h : pre a) : Gives (Pur arg pre res) (arg a) (res a) := fun vs H Q E r q => ⟨a, r, h, q⟩
/-- .. or an exception of the class at C -/
def PurX {α : Type} (arg : α → List D) (pre : α → Prop) (res : α → Addr ⊕ D) : Sp := fun vs H Q E => ∃ a, RepL H vs (arg a) ∧ pre a ∧ match res a with
  | .inr d => ∀ v H', Ex H H' → Rep (reg [] H H') v d → Q v H'
  | .inl C => ∀ H', Ex H H' → E (.ref C) none H'
theorem PurX.gives {α : Type} {arg : α → List D} {pre : α → Prop} {res : α → Addr ⊕ D} (a : α) {d : D} (h : pre a) (hd : res a = .inr d) : Gives (PurX arg pre res) (arg a) d := fun vs H Q E r q => ⟨a, r, h, by rw [hd]; exact q⟩
theorem PurX.fails {α : Type} {arg : α → List D} {pre : α → Prop} {res : α → Addr ⊕ D} (a : α) {C : Addr} (h : pre a) (hd : res a = .inl C) : Fails (PurX arg pre res) (arg a) C := fun vs H Q E r q => ⟨a, r, h, by rw [hd]; exact q⟩
end

/-! ### statements -/
def wp (X : Cx) (sts : List Stmt) (D : Ends) (σ : L2.St) (H : Hp) : Prop := ∃ t, PSs X sts t ∧ t D σ H
section
variable {X : Cx} {st : Stmt} {rest body as bs : List Stmt} {e c : Expr} {pos : Pos} {E : Ends} {σ : L2.St} {H : Hp} {Z : Fr} {Γ : List SV} {m i : Nat} {d : D} {ds : List D}
theorem pss_wp (sts : List Stmt) : PSs X sts (fun D σ H => wp X sts D σ H) := ⟨fun pins s σ H D I ⟨t, h, q⟩ => h.run pins s σ H D I q⟩
theorem wp_cons {t : TS} (h : PS X st t) (k : t { E with nx := fun σ' H' => wp X rest E σ' H' } σ H) : wp X (st :: rest) E σ H := ⟨tSeq t (fun D σ H => wp X rest D σ H), pss_cons h (pss_wp rest), k⟩
theorem wp_nil (k : E.nx σ H) : wp X [] E σ H := ⟨_, pss_nil, k⟩
/-- x = e -/
theorem w_set (i : Nat) {x : Str} {p : Pos} (he : PE X e (tD Z Γ m d)) (h : Holds Z σ H Γ) (k : ∀ σ' H', Ex H H' → Holds Z σ' H' (Γ.set i (.dat (min m 2) d)) → wp X rest E σ' H')
    (hN : X.N.Nodup) (hi : X.N[i]? = some x := by rfl) (hx : Loc X.env.scope x := by first | exact .inl rfl | exact .inr rfl) (hf : X.fn x = true ∨ X.env.scope.names.lookup x = some .local := by first | exact .inl rfl | exact .inr rfl)
    (hs : swapsWith e (some (.Name x p)) pos.line X.env = pure false := by rfl) : wp X (.Assign [.Name x p] e pos :: rest) E σ H :=
  wp_cons (ps_asg he (pg_name hN hi hx hf) hs) ⟨h, fun v H' ex r => k _ H' ex ((h.grow ex).dat i (by
    have := r.mono (rg_down (m' := min m 2) (Nat.min_le_left _ _) h.h0x)
    match hm : min m 2, Nat.min_le_right m 2 with
    | 0, _ => rw [hm] at this; exact this
    | 1, _ => rw [hm] at this; exact this
    | 2, _ => rw [hm] at this; exact this))⟩
/-- x = e, a new list of the slot's own -/
theorem w_own (i : Nat) {x : Str} {p : Pos} (he : PE X e (tD Z Γ 3 (.lst ds))) (h : Holds Z σ H Γ) (k : ∀ σ' H', Ex H H' → Holds Z σ' H' (Γ.set i (.own 2 ds)) → wp X rest E σ' H')
    (hN : X.N.Nodup) (hi : X.N[i]? = some x := by rfl) (hx : Loc X.env.scope x := by first | exact .inl rfl | exact .inr rfl) (hf : X.fn x = true ∨ X.env.scope.names.lookup x = some .local := by first | exact .inl rfl | exact .inr rfl)
    (hs : swapsWith e (some (.Name x p)) pos.line X.env = pure false := by rfl) : wp X (.Assign [.Name x p] e pos :: rest) E σ H :=
  wp_cons (ps_asg he (pg_name hN hi hx hf) hs) ⟨h, fun v H' ex r => by
    cases r with
    | lst h1 h2 => exact k _ H' ex (h.setOwn i ex (.lst h1 h2))⟩
theorem w_ret (he : PE X e (tD Z Γ m d)) (h : Holds Z σ H Γ) (k : ∀ v H', Ex H H' → Rep (rg m (Z.O σ Γ) Z.h0 H H') v d → E.rt v H') : wp X (.Return (some e) pos :: rest) E σ H :=
  wp_cons (ps_ret he) ⟨h, k⟩
theorem w_expr (he : PE X e (tD Z Γ m d)) (h : Holds Z σ H Γ) (k : ∀ H', Ex H H' → Holds Z σ H' Γ → wp X rest E σ H') (hs : swapsWith e none pos.line X.env = pure false := by rfl) : wp X (.Expr e pos :: rest) E σ H :=
  wp_cons (ps_expr he hs) ⟨h, fun v H' ex r => k H' ex (h.grow ex)⟩
theorem w_if {b : Bool} (hc : PT X c (tDT Z Γ b)) (h : Holds Z σ H Γ) (k1 : b = true → ∀ H', Ex H H' → Holds Z σ H' Γ → wp X as { E with nx := fun σ' H' => wp X rest E σ' H' } σ H') (k2 : b = false → ∀ H', Ex H H' → Holds Z σ H' Γ → wp X bs { E with nx := fun σ' H' => wp X rest E σ' H' } σ H') :
    wp X (.If c as bs pos :: rest) E σ H :=
  wp_cons (ps_if hc (pss_wp as) (pss_wp bs)) ⟨h, fun H' ex => by
    cases b with
    | true => exact iteT (k1 rfl H' ex (h.grow ex))
    | false => exact iteF (k2 rfl H' ex (h.grow ex))⟩
theorem w_break (k : E.bk σ H) : wp X (.Break pos :: rest) E σ H := wp_cons ps_break k
theorem w_continue (k : E.ct σ H) : wp X (.Continue pos :: rest) E σ H := wp_cons ps_continue k
/-- x += e, numbers -/
theorem w_aug (i : Nat) {x : Str} {p : Pos} {n k : Int} {mi : Nat} (hΓ : Γ[i]? = some (.dat mi (.int n))) (he : PE X e (tD Z Γ m (.int k))) (h : Holds Z σ H Γ) (kk : ∀ σ' H', Ex H H' → Holds Z σ' H' (Γ.set i (.dat 2 (.int (n + k)))) → wp X rest E σ' H')
    (hN : X.N.Nodup) (hi : X.N[i]? = some x := by rfl) (hx : Loc X.env.scope x := by first | exact .inl rfl | exact .inr rfl) (hf : X.fn x = true ∨ X.env.scope.names.lookup x = some .local := by first | exact .inl rfl | exact .inr rfl) : wp X (.AugAssign (.Name x p) .Add e pos :: rest) E σ H :=
  wp_cons (ps_aug hN hi hx he ip_add hf) (by
    have hl : i < σ.length := by rw [h.len]; exact (List.getElem?_eq_some_iff.mp hΓ).1
    obtain ⟨v, e1, r⟩ := h.ok i σ[i] _ (List.getElem?_eq_getElem hl) hΓ
    cases r
    refine ⟨.int n, by rw [List.getElem?_eq_getElem hl, e1], h, fun y H' ex r2 => ?_⟩
    cases r2
    exact ⟨n, k, rfl, rfl, kk _ H' ex ((h.grow ex).dat i (.int _))⟩)
theorem w_augS (i : Nat) {x : Str} {p : Pos} {n k : Int} {mi : Nat} (hΓ : Γ[i]? = some (.dat mi (.int n))) (he : PE X e (tD Z Γ m (.int k))) (h : Holds Z σ H Γ) (kk : ∀ σ' H', Ex H H' → Holds Z σ' H' (Γ.set i (.dat 2 (.int (n - k)))) → wp X rest E σ' H')
    (hN : X.N.Nodup) (hi : X.N[i]? = some x := by rfl) (hx : Loc X.env.scope x := by first | exact .inl rfl | exact .inr rfl) (hf : X.fn x = true ∨ X.env.scope.names.lookup x = some .local := by first | exact .inl rfl | exact .inr rfl) : wp X (.AugAssign (.Name x p) .Sub e pos :: rest) E σ H :=
  wp_cons (ps_aug hN hi hx he ip_sub hf) (by
    have hl : i < σ.length := by rw [h.len]; exact (List.getElem?_eq_some_iff.mp hΓ).1
    obtain ⟨v, e1, r⟩ := h.ok i σ[i] _ (List.getElem?_eq_getElem hl) hΓ
    cases r
    refine ⟨.int n, by rw [List.getElem?_eq_getElem hl, e1], h, fun y H' ex r2 => ?_⟩
    cases r2
    exact ⟨n, k, rfl, rfl, kk _ H' ex ((h.grow ex).dat i (.int _))⟩)

/-! ### targets -/
inductive Pat where
  | nm (i : Nat) | tp (ps : List Pat) | skip
mutual
def gP (K : PySem.W.Frag) : Pat → TG
  | .nm i => gName i
  | .tp ps => gTup K ps.length (gPs K ps)
  | .skip => fun _ _ _ _ => False
def gPs (K : PySem.W.Frag) : List Pat → TGs
  | [] => gNil
  | p :: ps => gCons (gP K p) (gPs K ps)
end
mutual
def bindP (m : Nat) : Pat → D → List SV → Option (List SV)
  | .nm i, d, Γ => some (Γ.set i (.dat m d))
  | .tp ps, .tup ds, Γ => bindPs m ps ds Γ
  | _, _, _ => none
def bindPs (m : Nat) : List Pat → List D → List SV → Option (List SV)
  | [], [], Γ => some Γ
  | p :: ps, d :: ds, Γ => (bindP m p d Γ).bind (bindPs m ps ds)
  | _, _, _ => none
end
theorem bindPs_len : ∀ {ps : List Pat} {ds : List D} {Γ Γ' : List SV}, bindPs m ps ds Γ = some Γ' → ps.length = ds.length
  | [], [], _, _, _ => rfl
  | [], _ :: _, _, _, h => by unfold bindPs at h; cases h
  | _ :: _, [], _, _, h => by unfold bindPs at h; cases h
  | p :: ps, d :: ds, Γ, Γ', h => by
    unfold bindPs at h
    cases e : bindP m p d Γ with
    | none => rw [e] at h; cases h
    | some Γ1 =>
      rw [e] at h
      exact congrArg (· + 1) (bindPs_len (Γ := Γ1) h)
/-- the regions shrink no more once fewer are owned -/
theorem Holds.sub_put (h : Holds Z σ H Γ) (i : Nat) (v : V) (r : Rep (rg m (Z.O σ Γ) Z.h0 Z.h0 H) v d) :
    Holds Z (σ.set i (some v)) H (Γ.set i (.dat m d)) ∧ ∀ k, Ex (rg k (Z.O σ Γ) Z.h0 Z.h0 H) (rg k (Z.O (σ.set i (some v)) (Γ.set i (.dat m d))) Z.h0 Z.h0 H) := by
  refine ⟨h.dat i r, fun k => rg_ex (fun a z => ?_) (Ex.refl _) (Ex.refl _)⟩
  rcases List.mem_append.mp z with z | z
  · exact .inl (List.mem_append_left _ z)
  · exact .inl (List.mem_append_right _ ((owns_set_no i (some v) (.dat m d) fun _ _ q => by cases q).mem z))
mutual
theorem gP_ok {K : PySem.W.Frag} : ∀ {p : Pat} {d : D} {v : V} {σ : L2.St} {Γ Γ' : List SV} {Q : L2.St → Hp → Prop}, Holds Z σ H Γ → Rep (rg m (Z.O σ Γ) Z.h0 Z.h0 H) v d → bindP m p d Γ = some Γ' →
    (∀ σ', Holds Z σ' H Γ' → (∀ k, Ex (rg k (Z.O σ Γ) Z.h0 Z.h0 H) (rg k (Z.O σ' Γ') Z.h0 Z.h0 H)) → Q σ' H) → gP K p v σ H Q
  | .nm i, d, v, σ, Γ, Γ', Q, h, r, hb, q => by
    unfold bindP at hb
    cases hb
    obtain ⟨h1, h2⟩ := h.sub_put i v r
    unfold gP
    exact q _ h1 h2
  | .tp ps, .tup ds, v, σ, Γ, Γ', Q, h, r, hb, q => by
    unfold bindP at hb
    unfold gP
    cases r with
    | tup r1 r2 =>
      exact ⟨_, _, rfl, .of (rg_le _ _ r1), by rw [r2.length]; exact (bindPs_len hb).symm, gPs_ok h r2 hb q⟩
  | .tp ps, .non, _, _, _, _, _, _, _, hb, _ => by unfold bindP at hb; cases hb
  | .tp ps, .bl _, _, _, _, _, _, _, _, hb, _ => by unfold bindP at hb; cases hb
  | .tp ps, .int _, _, _, _, _, _, _, _, hb, _ => by unfold bindP at hb; cases hb
  | .tp ps, .str _, _, _, _, _, _, _, _, hb, _ => by unfold bindP at hb; cases hb
  | .tp ps, .lst _, _, _, _, _, _, _, _, hb, _ => by unfold bindP at hb; cases hb
  | .tp ps, .emp, _, _, _, _, _, _, _, hb, _ => by unfold bindP at hb; cases hb
  | .tp ps, .obj _ _ _, _, _, _, _, _, _, _, hb, _ => by unfold bindP at hb; cases hb
  | .skip, _, _, _, _, _, _, _, _, hb, _ => by unfold bindP at hb; cases hb
theorem gPs_ok {K : PySem.W.Frag} : ∀ {ps : List Pat} {ds : List D} {vs : List V} {σ : L2.St} {Γ Γ' : List SV} {Q : L2.St → Hp → Prop}, Holds Z σ H Γ → RepL (rg m (Z.O σ Γ) Z.h0 Z.h0 H) vs ds → bindPs m ps ds Γ = some Γ' →
    (∀ σ', Holds Z σ' H Γ' → (∀ k, Ex (rg k (Z.O σ Γ) Z.h0 Z.h0 H) (rg k (Z.O σ' Γ') Z.h0 Z.h0 H)) → Q σ' H) → gPs K ps vs σ H Q
  | [], [], vs, σ, Γ, Γ', Q, h, r, hb, q => by
    unfold bindPs at hb
    cases hb
    cases r
    unfold gPs
    exact ⟨rfl, q σ h fun k => Ex.refl _⟩
  | [], _ :: _, _, _, _, _, _, _, _, hb, _ => by unfold bindPs at hb; cases hb
  | _ :: _, [], _, _, _, _, _, _, _, hb, _ => by unfold bindPs at hb; cases hb
  | p :: ps, d :: ds, vs, σ, Γ, Γ', Q, h, r, hb, q => by
    unfold bindPs at hb
    cases e : bindP m p d Γ with
    | none => rw [e] at hb; cases hb
    | some Γ1 =>
      rw [e] at hb
      cases r with
      | cons r1 r2 =>
        unfold gPs
        exact ⟨_, _, rfl, gP_ok h r1 e fun σ1 h1 x1 => gPs_ok h1 (r2.mono (x1 m)) hb fun σ2 h2 x2 => q σ2 h2 fun k => (x1 k).trans (x2 k)⟩
end
/-- pattern = e -/
theorem w_unpack {tg : Expr} {Γ' : List SV} (p : Pat) (hg : PG X tg (gP X.K p)) (he : PE X e (tD Z Γ m d)) (hb : bindP (min m 2) p d Γ = some Γ') (h : Holds Z σ H Γ) (k : ∀ σ' H', Ex H H' → Holds Z σ' H' Γ' → wp X rest E σ' H')
    (hs : swapsWithSole [tg] e pos.line X.env = pure false := by rfl) (hw : swappedStores [tg] e X.env = pure none := by rfl) (h1 : (assignEach [tg] X.env).map (·.2) = [assign tg X.env] := by rfl) : wp X (.Assign [tg] e pos :: rest) E σ H :=
  wp_cons (ps_asg he hg hs hw h1) ⟨h, fun v H' ex r => gP_ok (h.grow ex) (by
    have := r.mono (rg_down (m' := min m 2) (Nat.min_le_left _ _) h.h0x)
    match hm : min m 2, Nat.min_le_right m 2 with
    | 0, _ => rw [hm] at this; exact this
    | 1, _ => rw [hm] at this; exact this
    | 2, _ => rw [hm] at this; exact this) hb fun σ' h' _ => k σ' H' ex h'⟩

/-! ### what is walked -/
/-- J hands out xs, whatever else happens outside B -/
def Yields (J : It) (B : Hp) (xs : List D) : Prop := ∀ (i : Nat) (H : Hp), Ex B H → (∀ d, xs[i]? = some d → J.go i H ∧ ∀ x H', J.yld i H x H' → Ex H H' ∧ ∀ R', Ex B R' → Ex (reg [] H H') R' → Rep R' x d) ∧ (xs.length ≤ i → J.stop i H)
def tI (Z : Fr) (Γ : List SV) (m : Nat) (xs : List D) : TI := fun σ H R => Holds Z σ H Γ ∧ ∀ J H1, Ex H H1 → Yields J (rg m (Z.O σ Γ) Z.h0 H H1) xs → R J H1
end
end DL

set_option Elab.async false
set_option linter.all false
set_option maxRecDepth 100000
/-! DL4: what is walked, loops, comprehensions. -/
namespace DL
open PySem L2

section
variable {X : Cx} {e a b l : Expr} {pos : Pos} {Z : Fr} {Γ : List SV} {m m' ma mb : Nat} {d da db : D} {ds es xs ys : List D} {tg : Expr}
theorem pi_imp {iter : Expr} {t t' : TI} (h : PI X tg iter t) (i : ∀ σ H R, t' σ H R → t σ H R) : PI X tg iter t' := ⟨fun pins s σ H R I q => h.run pins s σ H R I (i σ H R q)⟩
theorem sql_one {K : PySem.W.Frag} {H : Hp} {a : Addr} {xs ys : List V} (h : H a = some (.lst xs)) (k : SqL K H a ys) (hK : ∀ o, K.lookup a = some o → False) : ys = xs := by
  rcases k with (k | ⟨o, k⟩) | ⟨o, its, n, k, _⟩
  · rw [h] at k; cases k; rfl
  · rw [h] at k; cases k
  · exact (hK o k).elim
/-- what the list at a holds is handed out: the model says which list it is -/
theorem yields_list {K : PySem.W.Frag} {B : Hp} {a : Addr} {vs : List V} (h : B a = some (.lst vs)) (r : RepL B vs xs) : Yields (Itl K a) B xs := fun i H e => by
  refine ⟨fun d hd => ?_, fun hl => ⟨vs, .of (e _ _ h), by rw [r.length]; exact hl⟩⟩
  obtain ⟨v, hv, rv⟩ := r.getD hd
  refine ⟨⟨vs, v, .of (e _ _ h), hv⟩, fun x H' y => ?_⟩
  obtain ⟨rfl, y⟩ := y
  have q := y vs (.of (e _ _ h))
  rw [hv] at q; cases q
  exact ⟨Ex.refl _, fun R' hb _ => rv.mono hb⟩
theorem yields_tup {K : PySem.W.Frag} {B : Hp} {a : Addr} {vs : List V} (h : B a = some (.tup vs)) (r : RepL B vs xs) : Yields (Itt K a) B xs := fun i H e => by
  refine ⟨fun d hd => ?_, fun hl => ⟨vs, .of (e _ _ h), by rw [r.length]; exact hl⟩⟩
  obtain ⟨v, hv, rv⟩ := r.getD hd
  refine ⟨⟨vs, v, .of (e _ _ h), hv⟩, fun x H' y => ?_⟩
  obtain ⟨rfl, y⟩ := y
  have q := y vs (.of (e _ _ h))
  rw [hv] at q; cases q
  exact ⟨Ex.refl _, fun R' hb _ => rv.mono hb⟩
theorem i_list (h : PE X l (tD Z Γ m (.lst xs))) : PI X tg l (tI Z Γ m xs) :=
  pi_imp (pi_list h) fun σ H R q => ⟨q.1, fun v H1 e1 r => by
    cases r with
    | lst h1 h2 => exact ⟨_, rfl, ⟨_, .of (rg_le _ _ h1)⟩, q.2 _ H1 e1 (yields_list h1 h2)⟩⟩
theorem i_tup (h : PE X l (tD Z Γ m (.tup xs))) : PI X tg l (tI Z Γ m xs) :=
  pi_imp (pi_tup h) fun σ H R q => ⟨q.1, fun v H1 e1 r => by
    cases r with
    | tup h1 h2 => exact ⟨_, rfl, ⟨_, .of (rg_le _ _ h1)⟩, q.2 _ H1 e1 (yields_tup h1 h2)⟩⟩
/-- the numbers from lo on, n of them -/
def rng (lo : Int) (n : Nat) : List D := (List.range n).map fun (i : Nat) => .int (lo + (i : Int))
theorem rng_len (lo : Int) (n : Nat) : (rng lo n).length = n := by unfold rng; rw [List.length_map, List.length_range]
theorem rng_get {lo : Int} {n i : Nat} {d : D} (h : (rng lo n)[i]? = some d) : i < n ∧ d = .int (lo + (i : Int)) := by
  unfold rng at h
  rw [List.getElem?_map] at h
  cases e : (List.range n)[i]? with
  | none => rw [e] at h; cases h
  | some j =>
    rw [e] at h
    have hj := List.getElem?_eq_some_iff.mp e
    obtain ⟨h1, h2⟩ := hj
    rw [List.getElem_range] at h2
    rw [List.length_range] at h1
    subst h2
    exact ⟨h1, (Option.some.inj h).symm⟩
theorem rng_at {lo : Int} {n i : Nat} (h : i < n) : (rng lo n)[i]? = some (.int (lo + (i : Int))) := by
  unfold rng
  rw [List.getElem?_map, List.getElem?_range h]; rfl
theorem yields_rng {B : Hp} {lo : Int} {n : Nat} : Yields (Itr lo n) B (rng lo n) := fun i H e => by
  refine ⟨fun d hd => ?_, fun hl => by rw [rng_len] at hl; exact hl⟩
  obtain ⟨h1, rfl⟩ := rng_get hd
  refine ⟨h1, fun x H' y => ?_⟩
  obtain ⟨rfl, rfl⟩ := y
  exact ⟨Ex.refl _, fun R' _ _ => .int _⟩
theorem i_range1 {n : Int} {p : Pos} (hm : X.mg "range" = none) (ha : PE X a (tD Z Γ ma (.int n))) (h1 : -(2 ^ 62) ≤ n) (h2 : n < 2 ^ 62) (hg : Gl X "range" := by rfl) (hs : starEach [a] X.env = (false, eval a X.env) :: starEach [] X.env := by rfl) (hs2 : starEach [a] X.env = [(false, eval a X.env)] := by rfl) :
    PI X tg (.Call (.Name "range" p) [a] [] pos) (tI Z Γ 3 (rng 0 n.toNat)) :=
  pi_imp (pi_range1 hg hm (a_cons ha a_nil hs) hs2) fun σ H R q => ⟨q.1, fun vs H1 e1 r => by
    cases r with
    | cons r1 r2 =>
      cases r2; cases r1
      exact ⟨n, rfl, h1, h2, q.2 _ H1 e1 yields_rng⟩⟩
theorem i_range2 {n k : Int} {p : Pos} (hm : X.mg "range" = none) (ha : PE X a (tD Z Γ ma (.int k))) (hb : PE X b (tD Z Γ mb (.int n))) (h1 : -(2 ^ 62) ≤ k ∧ k < 2 ^ 62 ∧ -(2 ^ 62) ≤ n ∧ n < 2 ^ 62) (hg : Gl X "range" := by rfl) (hs : starEach [a, b] X.env = (false, eval a X.env) :: starEach [b] X.env := by rfl)
    (hs2 : starEach [b] X.env = (false, eval b X.env) :: starEach [] X.env := by rfl) (hs3 : starEach [a, b] X.env = [(false, eval a X.env), (false, eval b X.env)] := by rfl) (hs4 : starEach [b] X.env = [(false, eval b X.env)] := by rfl) :
    PI X tg (.Call (.Name "range" p) [a, b] [] pos) (tI Z Γ 3 (rng k (n - k).toNat)) :=
  pi_imp (pi_range2 hg hm (a_cons ha (a_cons hb a_nil hs2) hs) hs3 hs4) fun σ H R q => ⟨q.1, fun vs H1 e1 r => by
    cases r with
    | cons r1 r2 =>
      cases r1
      cases r2 with
      | cons r2 r3 =>
        cases r3; cases r2
        exact ⟨k, n, rfl, h1, q.2 _ H1 e1 yields_rng⟩⟩
/-- pairs -/
def zipD : List D → List D → List D
  | x :: xs, y :: ys => .tup [x, y] :: zipD xs ys
  | _, _ => []
theorem zipD_get : ∀ {xs ys : List D} {i : Nat} {d : D}, (zipD xs ys)[i]? = some d → ∃ x y, xs[i]? = some x ∧ ys[i]? = some y ∧ d = .tup [x, y]
  | [], _, _, _, h => by unfold zipD at h; simp at h
  | _ :: _, [], _, _, h => by unfold zipD at h; simp at h
  | x :: xs, y :: ys, 0, _, h => by unfold zipD at h; simp at h; exact ⟨x, y, rfl, rfl, h.symm⟩
  | x :: xs, y :: ys, i + 1, _, h => by
    unfold zipD at h
    obtain ⟨a, b, h1, h2, h3⟩ := zipD_get (xs := xs) (ys := ys) (i := i) (by simpa using h)
    exact ⟨a, b, by simpa using h1, by simpa using h2, h3⟩
theorem zipD_len : ∀ (xs ys : List D), (zipD xs ys).length = min xs.length ys.length
  | [], _ => by unfold zipD; simp
  | _ :: _, [] => by unfold zipD; simp
  | x :: xs, y :: ys => by unfold zipD; simp only [List.length_cons, zipD_len xs ys]; omega
theorem yields_zip {K : PySem.W.Frag} {B : Hp} {a b : Addr} {vs ws : List V} (h : B a = some (.lst vs)) (r : RepL B vs xs) (h' : B b = some (.lst ws)) (r' : RepL B ws ys) : Yields (Itz K a b) B (zipD xs ys) := fun i H e => by
  refine ⟨fun d hd => ?_, fun hl => ⟨vs, ws, .of (e _ _ h), .of (e _ _ h'), by rw [zipD_len] at hl; rw [r.length, r'.length]; omega⟩⟩
  obtain ⟨x, y, hx, hy, rfl⟩ := zipD_get hd
  obtain ⟨v, hv, rv⟩ := r.getD hx
  obtain ⟨w, hw, rw'⟩ := r'.getD hy
  refine ⟨⟨vs, ws, v, w, .of (e _ _ h), .of (e _ _ h'), hv, hw⟩, fun z H' q => ?_⟩
  obtain ⟨T, x1, y1, rfl, hT, rfl, q1, q2⟩ := q
  have e1 := q1 vs (.of (e _ _ h))
  have e2 := q2 ws (.of (e _ _ h'))
  rw [hv] at e1; cases e1
  rw [hw] at e2; cases e2
  refine ⟨Ex.new hT, fun R' hb hn => .tup (hn _ _ ?_) (.cons (rv.mono hb) (.cons (rw'.mono hb) .nil))⟩
  exact reg_has (by simp) hT upd_same trivial
theorem i_zip {p tpos : Pos} {elts : List Expr} {kk : Nat} (hm : X.mg "zip" = none) (ha : PE X a (tD Z Γ ma (.lst xs))) (hb : PE X b (tD Z Γ mb (.lst ys))) (hg : Gl X "zip" := by rfl) (hs : starEach [a, b] X.env = (false, eval a X.env) :: starEach [b] X.env := by rfl)
    (hs2 : starEach [b] X.env = (false, eval b X.env) :: starEach [] X.env := by rfl) (hpl : (backTo pos (starEach [b] X.env)).any (·.1) = false := by rfl) : PI X (.Tuple elts kk tpos) (.Call (.Name "zip" p) [a, b] [] pos) (tI Z Γ (min ma mb) (zipD xs ys)) :=
  pi_imp (pi_zip hg hm (a_w (m' := min ma (min mb 3)) (m := min ma mb - (min ma mb - min ma (min mb 3))) (a_cons ha (a_cons hb a_nil hs2) hs) (by omega)) hs hpl) fun σ H R q => ⟨q.1, fun vs H1 e1 r => by
    have hle : min ma mb - (min ma mb - min ma (min mb 3)) = min ma (min mb 3) := by omega
    rw [hle] at r
    have hge : ∀ {v d}, Rep (rg (min ma (min mb 3)) (Z.O σ Γ) Z.h0 H H1) v d → Rep (rg (min ma mb) (Z.O σ Γ) Z.h0 H H1) v d := fun {v d} r => by
      by_cases h : min ma mb ≤ min ma (min mb 3)
      · exact r.mono (rg_down h q.1.h0x)
      · have h3 : min ma (min mb 3) = 3 := by omega
        have h4 : 3 ≤ min ma mb := by omega
        rw [h3] at r
        match hk : min ma mb, h4 with
        | k + 3, _ => exact r
    cases r with
    | cons r1 r2 =>
      cases r2 with
      | cons r2 r3 =>
        cases r3
        have r1 := hge r1
        have r2 := hge r2
        cases r1 with
        | lst h1 k1 =>
          cases r2 with
          | lst h2 k2 => exact ⟨_, _, _, _, rfl, .of (rg_le _ _ h1), .of (rg_le _ _ h2), q.2 _ H1 e1 (yields_zip h1 k1 h2 k2)⟩⟩
end

/-! ### for -/
section
variable {X : Cx} {body rest : List Stmt} {pos : Pos} {E : Ends} {σ : L2.St} {H : Hp} {Z : Fr} {Γ : List SV} {m : Nat} {xs : List D} {tg iter : Expr}
/-- the region of what is walked, within a later region -/
theorem reg_later {B H1 Hs : Hp} {O O' : List Addr} {H0 : Hp} (hm : 1 ≤ m) (hB : B = rg m O H0 Hs H1) (h0 : Ex H0 Hs) {H' Hs' : Hp} (e : Ex B H') (hO : ∀ l ∈ O', B l = none) : Ex B (rg (min m 2) O' H0 Hs' H') := fun a o q => by
  have hO' : a ∉ O' := fun z => by rw [hO a z] at q; cases q
  have q' := q
  rw [hB] at q'
  match m, hm with
  | 1, _ => show reg O' hn H' a = _; exact reg_has hO' rfl (e _ _ q) (reg_some4 q').2.2.2
  | 2, _ => show reg O' H0 H' a = _; exact reg_has hO' (reg_some q').2.1 (e _ _ q) (reg_some4 q').2.2.2
  | k + 3, _ =>
    rw [show min (k + 3) 2 = 2 by omega]
    show reg O' H0 H' a = _; exact reg_has hO' (Ex.free h0 (reg_some q').2.1) (e _ _ q) (reg_some4 q').2.2.2
theorem rg_off {O : List Addr} {H0 Hs H1 : Hp} (hm : 1 ≤ m) : ∀ l ∈ O, rg m O H0 Hs H1 l = none := fun l hl => by
  have : ∀ B : Hp, reg O B H1 l = none := fun B => by unfold reg; rw [if_pos (.inl hl)]
  match m, hm with
  | 1, _ => exact this _
  | 2, _ => exact this _
  | _ + 3, _ => exact this _
/-- for target in iter: body. Γs: the environment ahead of each turn -/
theorem w_for (p : Pat) (hi : PI X tg iter (tI Z Γ m xs)) (hm : 1 ≤ m) (hg : PG X tg (gP X.K p)) (hp : PassesOwn (model X.prog X.w) X.A X.env X.xe) (hc : X.calm = true) (h : Holds Z σ H Γ) (Γs : Nat → List SV)
    (h0 : ∀ Z' H', Holds Z' σ H' Γ → Holds Z' σ H' (Γs 0))
    (turn : ∀ (i : Nat) (d : D) (B : Hp) (σ' : L2.St) (H' : Hp), xs[i]? = some d → Holds { Z with fs := B :: Z.fs } σ' H' (Γs i) → ∃ Γ1, bindP (min m 2) p d (Γs i) = some Γ1 ∧ ∀ σ1 H1, Holds { Z with fs := B :: Z.fs } σ1 H1 Γ1 →
      wp X body { E with nx := fun σ2 H2 => Holds { Z with fs := B :: Z.fs } σ2 H2 (Γs (i + 1)), ct := fun σ2 H2 => Holds { Z with fs := B :: Z.fs } σ2 H2 (Γs (i + 1)), bk := fun σ' H' => wp X rest E σ' H' } σ1 H1)
    (after : ∀ σ' H', Holds Z σ' H' (Γs xs.length) → wp X rest E σ' H') (hs : ∀ x, foldedSetIterable iter X.env x = pure x := by intro _; rfl) : wp X (.For tg iter body [] pos :: rest) E σ H := by
  refine wp_cons (ps_for hp hc hi hg (pss_wp body) hs) ⟨h, fun J H1 e1 y => ?_⟩
  generalize hB : rg m (Z.O σ Γ) Z.h0 H H1 = B at y
  have hfr : Holds { Z with fs := B :: Z.fs } σ H1 Γ := (h.grow e1).frame (by rw [← hB]; exact rg_le) (by rw [← hB]; exact rg_off hm) (by rw [← hB]; exact fun _ _ => rg_nt)
  refine ⟨fun i n σ' H' => n = xs.length - i ∧ i ≤ xs.length ∧ Holds { Z with fs := B :: Z.fs } σ' H' (Γs i), ⟨xs.length, by simp, Nat.zero_le _, h0 _ _ hfr⟩, ?_⟩
  rintro i n σ' H' ⟨rfl, hi, p'⟩
  obtain ⟨y1, y2⟩ := y i H' p'.stays
  by_cases hlt : i < xs.length
  · obtain ⟨hgo, hy⟩ := y1 xs[i] (List.getElem?_eq_getElem hlt)
    refine .inr ⟨hgo, fun σ2 H2 => Holds { Z with fs := B :: Z.fs } σ2 H2 (Γs (i + 1)), fun σ2 H2 q => ⟨xs.length - (i + 1), by omega, rfl, hlt, q⟩, fun x H2 q => ?_⟩
    obtain ⟨e2, r⟩ := hy x H2 q
    have p2 := p'.grow e2
    obtain ⟨Γ1, hb, tn⟩ := turn i xs[i] B σ' H2 (List.getElem?_eq_getElem hlt) p2
    have rr := r (rg (min m 2) (Z.O σ' (Γs i)) Z.h0 Z.h0 H2) (reg_later hm hB.symm h.h0x p2.stays (fun l hl => (p2.ext B (.inr List.mem_cons_self)).2 l hl)) (rg_fresh p'.dom p'.h0x p'.h0x)
    exact gP_ok p2 rr hb fun σ1 h1 _ => tn σ1 H2 h1
  · have e : i = xs.length := by omega
    subst e
    exact .inl ⟨y2 (Nat.le_refl _), after σ' H' p'.unframe⟩
/-- while test: body. S: what changes, by Γs; μ falls -/
theorem w_while {c : Expr} {S : Type} (Γs : S → List SV) (μ : S → Nat) (I : S → Prop) (s0 : S) (hp : PassesOwn (model X.prog X.w) X.A X.env X.xe) (h : Holds Z σ H (Γs s0)) (hI : I s0)
    (turn : ∀ (s : S) (σ' : L2.St) (H' : Hp), I s → Holds Z σ' H' (Γs s) → ∃ b, PT X c (tDT Z (Γs s) b) ∧ (b = true → ∀ H1, Holds Z σ' H1 (Γs s) →
      wp X body { E with nx := fun σ2 H2 => ∃ s', I s' ∧ μ s' < μ s ∧ Holds Z σ2 H2 (Γs s'), ct := fun σ2 H2 => ∃ s', I s' ∧ μ s' < μ s ∧ Holds Z σ2 H2 (Γs s'), bk := fun σ' H' => wp X rest E σ' H' } σ' H1) ∧
      (b = false → ∀ H1, Holds Z σ' H1 (Γs s) → wp X rest E σ' H1)) : wp X (.While c body [] pos :: rest) E σ H := by
  refine wp_cons (ps_while (tc := fun σ H Q => ∃ t, PT X c t ∧ t σ H Q) hp ⟨fun pins s σ H Q I ⟨t, h, q⟩ => h.run pins s σ H Q I q⟩ (pss_wp body)) ?_
  refine ⟨fun n σ' H' => ∃ s, n = μ s ∧ I s ∧ Holds Z σ' H' (Γs s), ⟨_, s0, rfl, hI, h⟩, ?_⟩
  rintro n σ' H' ⟨s, rfl, is, hs⟩
  obtain ⟨b, hc, k1, k2⟩ := turn s σ' H' is hs
  refine ⟨_, hc, hs, fun H1 e1 => ?_⟩
  cases b with
  | true =>
    refine iteT ⟨fun σ2 H2 => ∃ s', I s' ∧ μ s' < μ s ∧ Holds Z σ2 H2 (Γs s'), fun σ2 H2 q => ?_, k1 rfl H1 (hs.grow e1)⟩
    obtain ⟨s', i', lt, q⟩ := q
    exact ⟨_, lt, s', rfl, i', q⟩
  | false => exact iteF (k2 rfl H1 (hs.grow e1))
end
end DL

set_option Elab.async false
set_option linter.all false
set_option maxRecDepth 100000
/-! DL5: list comprehensions. -/
namespace DL
open PySem L2

mutual
def slotsIn : Pat → List Nat → Bool
  | .nm i, vs => vs.contains i
  | .tp ps, vs => slotsInL ps vs
  | .skip, _ => false
def slotsInL : List Pat → List Nat → Bool
  | [], _ => true
  | p :: ps, vs => slotsIn p vs && slotsInL ps vs
end
/-- no slot of vs owns a list -/
def nown (Γ : List SV) (vs : List Nat) : Bool := vs.all fun v => match Γ[v]? with
  | some (.own _ _) => false
  | _ => true
theorem nown_at {Γ : List SV} {vs : List Nat} (h : nown Γ vs = true) {v : Nat} (hv : v ∈ vs) (m : Nat) (ds : List D) : Γ[v]? ≠ some (.own m ds) := fun e => by
  have := List.all_eq_true.mp h v hv
  rw [e] at this; cases this
theorem nown_of {Γ : List SV} {vs : List Nat} (h : ∀ v ∈ vs, ∀ m ds, Γ[v]? ≠ some (.own m ds)) : nown Γ vs = true := by
  refine List.all_eq_true.mpr fun v hv => ?_
  split
  · rename_i m ds e; exact absurd e (h v hv m ds)
  · rfl
theorem nown_set {Γ : List SV} {vs : List Nat} (h : nown Γ vs = true) (i : Nat) {sv : SV} (hs : ∀ m ds, sv ≠ .own m ds) : nown (Γ.set i sv) vs = true := nown_of fun v hv m ds e => by
  by_cases hi : i = v
  · subst hi
    by_cases hl : i < Γ.length
    · rw [List.getElem?_set_self hl] at e
      exact hs m ds (Option.some.inj e)
    · rw [List.getElem?_eq_none (by simpa using hl)] at e; cases e
  · rw [List.getElem?_set_ne hi] at e
    exact nown_at h hv m ds e
theorem owns_set_eq : ∀ {σ : L2.St} {Γ : List SV} (i : Nat) (o : Option V) (sv : SV), (∀ m ds, sv ≠ .own m ds) → (∀ m ds, Γ[i]? ≠ some (.own m ds)) → owns (σ.set i o) (Γ.set i sv) = owns σ Γ
  | [], Γ, i, o, sv, h, k => by unfold owns; simp
  | a :: σ, [], i, o, sv, h, k => by
    cases i <;> (unfold owns; simp)
  | a :: σ, b :: Γ, 0, o, sv, h, k => by
    rw [List.set_cons_zero, List.set_cons_zero, owns_cons_no (fun ⟨l, m, ds, _, e⟩ => h m ds e), owns_cons_no (fun ⟨l, m, ds, _, e⟩ => k m ds (by simp [e]))]
  | a :: σ, b :: Γ, i + 1, o, sv, h, k => by
    rw [List.set_cons_succ, List.set_cons_succ]
    have ih := owns_set_eq (σ := σ) (Γ := Γ) i o sv h (fun m ds e => k m ds (by simpa using e))
    by_cases hc : ∃ l m ds, a = some (V.ref l) ∧ b = SV.own m ds
    · obtain ⟨l, m, ds, rfl, rfl⟩ := hc
      show l :: owns _ _ = l :: owns _ _
      rw [ih]
    · rw [owns_cons_no hc, owns_cons_no hc]; exact ih
theorem wipe_get {σ : L2.St} : ∀ {vs : List Nat} {j : Nat}, (wipe σ vs)[j]? = if j ∈ vs then (σ[j]?.map fun _ => none) else σ[j]?
  | [], j => by simp [wipe]
  | v :: vs, j => by
    show ((wipe σ vs).set v none)[j]? = _
    by_cases h : v = j
    · subst h
      rw [if_pos List.mem_cons_self]
      by_cases hl : v < σ.length
      · rw [List.getElem?_set_self (by rw [wipe_length]; exact hl), List.getElem?_eq_getElem hl]; rfl
      · rw [List.getElem?_eq_none (by rw [List.length_set, wipe_length]; omega), List.getElem?_eq_none (by omega)]; rfl
    · rw [List.getElem?_set_ne h, wipe_get (vs := vs)]
      have : (j ∈ v :: vs) ↔ (j ∈ vs) := ⟨fun z => (List.mem_cons.mp z).resolve_left fun q => h q.symm, List.mem_cons_of_mem _⟩
      by_cases hm : j ∈ vs
      · rw [if_pos hm, if_pos (this.mpr hm)]
      · rw [if_neg hm, if_neg fun z => hm (this.mp z)]
theorem wipe_set {σ : L2.St} {vs : List Nat} {i : Nat} (hi : i ∈ vs) (o : Option V) : wipe (σ.set i o) vs = wipe σ vs := by
  apply List.ext_getElem?
  intro j
  rw [wipe_get, wipe_get]
  by_cases hj : j ∈ vs
  · rw [if_pos hj, if_pos hj]
    by_cases h : i = j
    · subst h
      by_cases hl : i < σ.length
      · rw [List.getElem?_set_self hl, List.getElem?_eq_getElem hl]; rfl
      · rw [List.getElem?_eq_none (by simpa using hl), List.getElem?_eq_none (by omega)]
    · rw [List.getElem?_set_ne h]
  · rw [if_neg hj, if_neg hj, List.getElem?_set_ne (fun (z : i = j) => hj (by rw [← z]; exact hi))]
theorem wipe_wipe {σ : L2.St} {vs : List Nat} : wipe (wipe σ vs) vs = wipe σ vs := by
  apply List.ext_getElem?
  intro j
  rw [wipe_get, wipe_get]
  by_cases hj : j ∈ vs
  · rw [if_pos hj, if_pos hj]; cases σ[j]? <;> rfl
  · rw [if_neg hj, if_neg hj]
def wipeG (Γ : List SV) : List Nat → List SV
  | [] => Γ
  | v :: vs => (wipeG Γ vs).set v .any
section
variable {Z : Fr} {H : Hp} {m : Nat}
theorem Holds.wipe {σ : L2.St} {Γ : List SV} (h : Holds Z σ H Γ) : ∀ vs : List Nat, Holds Z (wipe σ vs) H (wipeG Γ vs)
  | [] => h
  | v :: vs => (Holds.wipe h vs).forget v none
theorem nown_wipe {Γ : List SV} {ws : List Nat} (h : nown Γ ws = true) : ∀ vs : List Nat, nown (wipeG Γ vs) ws = true
  | [] => h
  | v :: vs => nown_set (nown_wipe h vs) v fun _ _ z => by cases z
theorem owns_wipe {σ : L2.St} {Γ : List SV} : ∀ vs : List Nat, nown Γ vs = true → owns (L2.wipe σ vs) (wipeG Γ vs) = owns σ Γ
  | [], _ => rfl
  | v :: vs, h => by
    have h' : nown Γ vs = true := nown_of fun u hu m ds => nown_at h (List.mem_cons_of_mem _ hu) m ds
    show owns ((L2.wipe σ vs).set v none) ((wipeG Γ vs).set v .any) = _
    rw [owns_set_eq v none .any (fun _ _ z => by cases z) (fun m ds => nown_at (nown_wipe h vs) List.mem_cons_self m ds), owns_wipe vs h']
theorem noz_set {Γ : List SV} (h : noz Γ = true) {sv : SV} (hs : (∀ d, sv ≠ .dat 0 d) ∧ ∀ ds, sv ≠ .own 0 ds) : ∀ i : Nat, noz (Γ.set i sv) = true := by
  have of : ∀ {Γ : List SV}, (∀ (i : Nat) (sv : SV), Γ[i]? = some sv → (∀ d, sv ≠ .dat 0 d) ∧ ∀ ds, sv ≠ .own 0 ds) → noz Γ = true := by
    intro Γ
    induction Γ with
    | nil => intro _; rfl
    | cons a Γ ih =>
      intro k
      have h0 := k 0 a rfl
      have ih' := ih fun i sv e => k (i + 1) sv (by simpa using e)
      unfold noz
      split
      · rename_i e; cases e
      · rename_i d _ e; cases e; exact absurd rfl (h0.1 d)
      · rename_i d _ e; cases e; exact absurd rfl (h0.2 d)
      · rename_i e; cases e; exact ih'
  intro i
  refine of fun j sv' e => ?_
  by_cases hj : i = j
  · subst hj
    by_cases hl : i < Γ.length
    · rw [List.getElem?_set_self hl] at e
      cases e; exact hs
    · rw [List.getElem?_eq_none (by simpa using hl)] at e; cases e
  · rw [List.getElem?_set_ne hj] at e
    exact noz_at h e
theorem noz_wipe {Γ : List SV} (h : noz Γ = true) : ∀ vs : List Nat, noz (wipeG Γ vs) = true
  | [] => h
  | v :: vs => noz_set (noz_wipe h vs) ⟨fun _ z => (by cases z), fun _ z => (by cases z)⟩ v
/-- targets again, with what stays -/
structure Kept (vs : List Nat) (σ σ' : L2.St) (Γ Γ' : List SV) : Prop where
  wp : wipe σ' vs = wipe σ vs
  ow : owns σ' Γ' = owns σ Γ
  no : nown Γ' vs = true
theorem Kept.trans {vs : List Nat} {σ σ' σ2 : L2.St} {Γ Γ' Γ2 : List SV} (a : Kept vs σ σ' Γ Γ') (b : Kept vs σ' σ2 Γ' Γ2) : Kept vs σ σ2 Γ Γ2 := ⟨b.wp.trans a.wp, b.ow.trans a.ow, b.no⟩
mutual
theorem gP_kept {K : PySem.W.Frag} {vs : List Nat} : ∀ {p : Pat} {d : D} {v : V} {σ : L2.St} {Γ Γ' : List SV} {Q : L2.St → Hp → Prop}, Holds Z σ H Γ → Rep (rg m (Z.O σ Γ) Z.h0 Z.h0 H) v d → bindP m p d Γ = some Γ' → slotsIn p vs = true → nown Γ vs = true →
    (∀ σ', Holds Z σ' H Γ' → Kept vs σ σ' Γ Γ' → Q σ' H) → gP K p v σ H Q
  | .nm i, d, v, σ, Γ, Γ', Q, h, r, hb, hs, hn, q => by
    unfold bindP at hb
    cases hb
    unfold gP
    have hi : i ∈ vs := by
      unfold slotsIn at hs
      exact List.elem_iff.mp hs
    exact q _ (h.dat i r) ⟨wipe_set hi _, owns_set_eq i _ _ (fun _ _ z => by cases z) (fun m ds => nown_at hn hi m ds), nown_set hn i fun _ _ z => by cases z⟩
  | .tp ps, .tup ds, v, σ, Γ, Γ', Q, h, r, hb, hs, hn, q => by
    unfold bindP at hb
    unfold slotsIn at hs
    unfold gP
    cases r with
    | tup r1 r2 =>
      exact ⟨_, _, rfl, .of (rg_le _ _ r1), by rw [r2.length]; exact (bindPs_len hb).symm, gPs_kept h r2 hb hs hn q⟩
  | .tp ps, .non, _, _, _, _, _, _, _, hb, _, _, _ => by unfold bindP at hb; cases hb
  | .tp ps, .bl _, _, _, _, _, _, _, _, hb, _, _, _ => by unfold bindP at hb; cases hb
  | .tp ps, .int _, _, _, _, _, _, _, _, hb, _, _, _ => by unfold bindP at hb; cases hb
  | .tp ps, .str _, _, _, _, _, _, _, _, hb, _, _, _ => by unfold bindP at hb; cases hb
  | .tp ps, .lst _, _, _, _, _, _, _, _, hb, _, _, _ => by unfold bindP at hb; cases hb
  | .tp ps, .emp, _, _, _, _, _, _, _, hb, _, _, _ => by unfold bindP at hb; cases hb
  | .tp ps, .obj _ _ _, _, _, _, _, _, _, _, hb, _, _, _ => by unfold bindP at hb; cases hb
  | .skip, _, _, _, _, _, _, _, _, hb, _, _, _ => by unfold bindP at hb; cases hb
theorem gPs_kept {K : PySem.W.Frag} {vs : List Nat} : ∀ {ps : List Pat} {ds : List D} {ws : List V} {σ : L2.St} {Γ Γ' : List SV} {Q : L2.St → Hp → Prop}, Holds Z σ H Γ → RepL (rg m (Z.O σ Γ) Z.h0 Z.h0 H) ws ds → bindPs m ps ds Γ = some Γ' → slotsInL ps vs = true → nown Γ vs = true →
    (∀ σ', Holds Z σ' H Γ' → Kept vs σ σ' Γ Γ' → Q σ' H) → gPs K ps ws σ H Q
  | [], [], ws, σ, Γ, Γ', Q, h, r, hb, hs, hn, q => by
    unfold bindPs at hb
    cases hb
    cases r
    unfold gPs
    exact ⟨rfl, q σ h ⟨rfl, rfl, hn⟩⟩
  | [], _ :: _, _, _, _, _, _, _, _, hb, _, _, _ => by unfold bindPs at hb; cases hb
  | _ :: _, [], _, _, _, _, _, _, _, hb, _, _, _ => by unfold bindPs at hb; cases hb
  | p :: ps, d :: ds, ws, σ, Γ, Γ', Q, h, r, hb, hs, hn, q => by
    unfold bindPs at hb
    unfold slotsInL at hs
    obtain ⟨s1, s2⟩ := Bool.and_eq_true_iff.mp hs
    cases e : bindP m p d Γ with
    | none => rw [e] at hb; cases hb
    | some Γ1 =>
      rw [e] at hb
      cases r with
      | cons r1 r2 =>
        unfold gPs
        exact ⟨_, _, rfl, gP_kept h r1 e s1 hn fun σ1 h1 k1 => gPs_kept h1 (by
          have eO : Z.O σ1 Γ1 = Z.O σ Γ := congrArg (Z.ex ++ ·) k1.ow
          rw [eO]; exact r2) hb s2 k1.no fun σ2 h2 k2 => q σ2 h2 (k1.trans k2)⟩
end
end

section
variable {X : Cx} {Z : Fr} {Γ : List SV} {m me : Nat} {tg iter elt : Expr} {ifs : List Expr} {scope : Scope} {own : List (Str × Nat)} {pos : Pos}
theorem pts_nilD {X' : Cx} {Z : Fr} {Γ : List SV} : PTs X' [] (tDT Z Γ true) := ⟨fun pins s σ H Q I h => pts_nil.run pins s σ H Q I (h.2 H (Ex.refl H))⟩
theorem pts_oneD {X' : Cx} {Z : Fr} {Γ : List SV} {c : Expr} {b : Bool} (h : PT X' c (tDT Z Γ b)) : PTs X' [c] (tDT Z Γ b) := pts_one h
abbrev blkX (X : Cx) (scope : Scope) (s : Shared) (H : Hp) (C : Addr) (cl : List (Str × Addr)) (fp : List Addr) : Cx := X.blk s H scope (compEnvC scope cl C X.env) fp
def tTs (X : Cx) (scope : Scope) (ifs : List Expr) : TT := fun σ H Q => ∀ (s : Shared) (H' : Hp) (C : Addr) (cl : List (Str × Addr)) (fp : List Addr), ∃ t, PTs (blkX X scope s H' C cl fp) ifs t ∧ t σ H Q
def tEs (X : Cx) (scope : Scope) (elt : Expr) : TE := fun σ H Q => ∀ (s : Shared) (H' : Hp) (C : Addr) (cl : List (Str × Addr)) (fp : List Addr), ∃ t, PE (blkX X scope s H' C cl fp) elt t ∧ t σ H Q
theorem tTs_ok (s : Shared) (H' : Hp) (C : Addr) (cl : List (Str × Addr)) (fp : List Addr) : PTs (blkX X scope s H' C cl fp) ifs (tTs X scope ifs) := ⟨fun pins s' σ H Q I h => by
  obtain ⟨t, ht, q⟩ := h s H' C cl fp
  exact ht.run pins s' σ H Q I q⟩
theorem tEs_ok (s : Shared) (H' : Hp) (C : Addr) (cl : List (Str × Addr)) (fp : List Addr) : PE (blkX X scope s H' C cl fp) elt (tEs X scope elt) := ⟨fun pins s' σ H Q I h => by
  obtain ⟨t, ht, q⟩ := h s H' C cl fp
  exact ht.run pins s' σ H Q I q⟩
/-- one turn of a comprehension over ys -/
def LcTurn {α : Type} (X : Cx) (scope : Scope) (Z : Fr) (Γ : List SV) (vs : List Nat) (m : Nat) (p : Pat) (enc : α → D) (ifs : List Expr) (elt : Expr) (me : Nat) (tst : α → Bool) (f : α → D) (ys : List α) : Prop :=
  ∀ (i : Nat) (y : α) (Z' : Fr), ys[i]? = some y → Z'.h0 = Z.h0 ∧ Z'.gs = Z.gs → ∃ Γ1, bindP (min m 2) p (enc y) (wipeG Γ vs) = some Γ1 ∧
    (∀ (s : Shared) (H' : Hp) (C : Addr) (cl : List (Str × Addr)) (fp : List Addr), PTs (blkX X scope s H' C cl fp) ifs (tDT Z' Γ1 (tst y))) ∧
    (tst y = true → ∀ (s : Shared) (H' : Hp) (C : Addr) (cl : List (Str × Addr)) (fp : List Addr), PE (blkX X scope s H' C cl fp) elt (tD Z' Γ1 me (f y)))
theorem take_succ_get {α : Type} {l : List α} {i : Nat} {x : α} (h : l[i]? = some x) : l.take (i + 1) = l.take i ++ [x] := by
  rw [List.take_succ, h]; rfl
theorem imp_lc {α : Type} {enc : α → D} {ys : List α} {tst : α → Bool} {f : α → D} {vs : List Nat} {p : Pat} (hm : 1 ≤ m) (hme : 1 ≤ me) (hz : noz Γ = true) (hno : nown Γ vs = true) (hsl : slotsIn p vs = true) (hlen : ys.length ≤ 1000000)
    (turn : LcTurn X scope Z Γ vs m p enc ifs elt me tst f ys) {σ : L2.St} {H : Hp} {Q : VK} (h : tD Z Γ me (.lst ((ys.filter tst).map f)) σ H Q) :
    tLc (tI Z Γ m (ys.map enc)) (gP X.K p) (tTs X scope ifs) (tEs X scope elt) vs σ H Q := by
  refine ⟨h.1, fun J H1 e1 y D hD => ?_⟩
  generalize hB : rg m (Z.O σ Γ) Z.h0 H H1 = B at y
  have hBD : B D = none := by
    cases q : B D with
    | none => rfl
    | some o => rw [← hB] at q; rw [rg_le _ _ q] at hD; cases hD
  have h1 := h.1.grow e1
  have hfr : Holds { Z with fs := B :: Z.fs } σ H1 Γ := h1.frame (by rw [← hB]; exact rg_le) (by rw [← hB]; exact rg_off hm) (by rw [← hB]; exact fun _ _ => rg_nt)
  have hhd : Holds { Z with fs := B :: Z.fs, ex := D :: Z.ex } σ (upd H1 D (.lst [])) Γ := hfr.hide hD
  have hw := hhd.wipe vs
  generalize hZ : ({ Z with fs := B :: Z.fs, ex := D :: Z.ex } : Fr) = Z' at hw
  have hZ0 : Z'.h0 = Z.h0 := by rw [← hZ]
  have hDex : D ∈ Z'.ex := by rw [← hZ]; exact List.mem_cons_self
  have hZg : Z'.gs = Z.gs := by rw [← hZ]
  have hDg : ∀ g ∈ Z.gs, D ∉ g.as := fun g hg z => (h1.exd D ((h1.gok g hg).1 D z)).1 hD
  have eO : owns (wipe σ vs) (wipeG Γ vs) = owns σ Γ := owns_wipe vs hno
  have hHD : H D = none := Ex.free e1 hD
  refine ⟨fun i n Hi => n = ys.length - i ∧ i ≤ ys.length ∧ Holds Z' (wipe σ vs) Hi (wipeG Γ vs) ∧ Ex H Hi ∧ ∃ acc, Hi D = some (.lst acc) ∧ RepL (rg me (Z'.O (wipe σ vs) (wipeG Γ vs)) Z.h0 H Hi) acc (((ys.take i).filter tst).map f),
    ⟨ys.length, by simp, Nat.zero_le _, hw, e1.trans (Ex.new hD), [], upd_same, .nil⟩, ?_⟩
  rintro i n Hi ⟨rfl, hi, p', hx, acc, hacc, racc⟩
  have hst : Ex B Hi := (p'.ext B (.inr (by rw [← hZ]; exact List.mem_cons_self))).1
  obtain ⟨y1, y2⟩ := y i Hi hst
  by_cases hlt : i < ys.length
  · have gi : ys[i]? = some ys[i] := List.getElem?_eq_getElem hlt
    obtain ⟨hgo, hy⟩ := y1 (enc ys[i]) (by rw [List.getElem?_map, gi]; rfl)
    refine .inr ⟨hgo, fun Hj => i + 1 ≤ ys.length ∧ Holds Z' (wipe σ vs) Hj (wipeG Γ vs) ∧ Ex H Hj ∧ ∃ acc, Hj D = some (.lst acc) ∧ RepL (rg me (Z'.O (wipe σ vs) (wipeG Γ vs)) Z.h0 H Hj) acc (((ys.take (i + 1)).filter tst).map f), fun Hj q => ⟨ys.length - (i + 1), by omega, rfl, q⟩, fun x H2 q => ?_⟩
    obtain ⟨e2, r⟩ := hy x H2 q
    have p2 := p'.grow e2
    obtain ⟨Γ1, hb, tt, te⟩ := turn i ys[i] Z' gi ⟨hZ0, hZg⟩
    have hBO : ∀ l ∈ Z'.O (wipe σ vs) (wipeG Γ vs), B l = none := (p2.ext B (.inr (by rw [← hZ]; exact List.mem_cons_self))).2
    have rr := r (rg (min m 2) (Z'.O (wipe σ vs) (wipeG Γ vs)) Z'.h0 Z'.h0 H2) (by rw [hZ0]; exact reg_later hm hB.symm h.1.h0x (hst.trans e2) hBO) (rg_fresh p'.dom p'.h0x p'.h0x)
    refine gP_kept p2 rr hb hsl (nown_wipe hno vs) fun σ1 h1' k1 => ⟨by rw [k1.wp, wipe_wipe], fun s0 H0' C cl fp => ⟨_, tt s0 H0' C cl fp, h1', fun H3 e3 => ?_⟩⟩
    have eO1 : Z'.O σ1 Γ1 = Z'.O (wipe σ vs) (wipeG Γ vs) := congrArg (Z'.ex ++ ·) k1.ow
    have gt : ys.take (i + 1) = ys.take i ++ [ys[i]] := take_succ_get gi
    cases hb' : tst ys[i] with
    | false =>
      refine iteF ⟨hlt, p2.grow e3, hx.trans (e2.trans e3), acc, e3 _ _ (e2 _ _ hacc), ?_⟩
      rw [gt, List.filter_append, List.filter_cons_of_neg (by rw [hb']; simp), List.filter_nil, List.append_nil]
      exact racc.mono (rg_ex (fun _ z => .inl z) (Ex.refl _) (e2.trans e3))
    | true =>
      refine iteT fun s0 H0' C cl fp => ⟨_, te hb' s0 H0' C cl fp, h1'.grow e3, fun v H4 e4 rv => ?_⟩
      have e24 := e2.trans (e3.trans e4)
      refine ⟨acc, e24 _ _ hacc, ?_, hlt, (p'.grow e24).turnEx hDex (noz_wipe hz vs) (by rw [hZg]; exact hDg), fun a o q => ?_, acc ++ [v], upd_same, ?_⟩
      · have := racc.length
        rw [this, List.length_map]
        have h2 := List.length_filter_le tst (ys.take i)
        have h3 : (ys.take i).length ≤ ys.length := by rw [List.length_take]; omega
        have h4 : 1000000 < sizeLine := by decide
        omega
      · rw [upd_ne (ne_of_none q hHD)]
        exact e24 _ _ (hx _ _ q)
      · have hDO : D ∈ Z'.O (wipe σ vs) (wipeG Γ vs) := List.mem_append_left _ hDex
        rw [gt, List.filter_append, List.filter_cons_of_pos hb', List.filter_nil, List.map_append]
        refine RepL.append ((racc.mono (rg_ex (fun _ z => .inl z) (Ex.refl _) e24)).mono (rg_mut hme hDO)) (.cons ?_ .nil)
        have rv' : Rep (rg me (Z'.O (wipe σ vs) (wipeG Γ vs)) Z.h0 H3 H4) v (f ys[i]) := by rw [← eO1, ← hZ0]; exact rv
        exact (rv'.mono (rg_ex (fun _ z => .inl z) (hx.trans (e2.trans e3)) (Ex.refl _))).mono (rg_mut hme hDO)
  · have e : i = ys.length := by omega
    subst e
    refine .inl ⟨y2 (by rw [List.length_map]; exact Nat.le_refl _), h.2 (.ref D) Hi hx ?_⟩
    rw [List.take_length] at racc
    have hDO : D ∉ Z.O σ Γ := fun z => h1.dom D z hD
    refine .lst (vs := acc) ?_ (racc.mono (rg_ex (fun a z => .inl ?_) (Ex.refl _) (Ex.refl _)))
    · match me, hme with
      | 1, _ => show reg _ hn Hi D = _; exact reg_has hDO rfl hacc trivial
      | 2, _ => show reg _ Z.h0 Hi D = _; exact reg_has hDO (Ex.free h1.h0x hD) hacc trivial
      | _ + 3, _ => show reg _ H Hi D = _; exact reg_has hDO hHD hacc trivial
    · rcases List.mem_append.mp z with z | z
      · refine List.mem_append_left _ ?_
        rw [← hZ]; exact List.mem_cons_of_mem _ z
      · refine List.mem_append_right _ ?_
        rw [eO]; exact z
/-- [elt for target in iter if ..] -/
theorem d_lc {α : Type} {enc : α → D} {ys : List α} {tst : α → Bool} {f : α → D} (own : List (Str × Nat)) (p : Pat) (hi : PI X tg iter (tI Z Γ m (ys.map enc))) (hg : ∀ (s : Shared) (H' : Hp) (C : Addr) (cl : List (Str × Addr)) (fp : List Addr), PG (blkX X scope s H' C cl fp) tg (gP X.K p))
    (turn : LcTurn X scope Z Γ (own.map (·.2)) m p enc ifs elt me tst f ys) (hlen : ys.length ≤ 1000000) (hN : X.N.Nodup) (ok : BlkOk X.N X.env.scope scope own) (hc : X.calm = true := by rfl) (hm : 1 ≤ m := by decide) (hme : 1 ≤ me := by decide)
    (hz : noz Γ = true := by rfl) (hno : nown Γ (own.map (·.2)) = true := by rfl) (hsl : slotsIn p (own.map (·.2)) = true := by rfl) (hs : ∀ x, foldedSetIterable iter X.env x = pure x := by intro _; rfl) :
    PE X (.ListComp elt [⟨tg, iter, ifs, 0⟩] scope pos) (tD Z Γ me (.lst ((ys.filter tst).map f))) :=
  pe_imp (pe_lc hc hN hi ok hg (fun s H C cl fp => tTs_ok s H C cl fp) (fun s H C cl fp => tEs_ok s H C cl fp) hs) fun σ H Q h => imp_lc hm hme hz hno hsl hlen turn h
section
variable {rest : List Stmt} {E : Ends} {σ : L2.St} {H : Hp}
/-- x = [elt for target in iter if ..] -/
theorem w_lc {α : Type} {enc : α → D} {ys : List α} {tst : α → Bool} {f : α → D} (i : Nat) {x : Str} {py : Pos} (own : List (Str × Nat)) (p : Pat) (hi : PI X tg iter (tI Z Γ m (ys.map enc))) (hg : ∀ (s : Shared) (H' : Hp) (C : Addr) (cl : List (Str × Addr)) (fp : List Addr), PG (blkX X scope s H' C cl fp) tg (gP X.K p))
    (turn : LcTurn X scope Z Γ (own.map (·.2)) m p enc ifs elt me tst f ys) (h : Holds Z σ H Γ) (k : ∀ σ' H', Ex H H' → Holds Z σ' H' (Γ.set i (.dat (min me 2) (.lst ((ys.filter tst).map f)))) → wp X rest E σ' H') (hlen : ys.length ≤ 1000000) (hN : X.N.Nodup) (ok : BlkOk X.N X.env.scope scope own)
    (hsw : swapsWith (.ListComp elt [⟨tg, iter, ifs, 0⟩] scope pos) (some (.Name x py)) pos.line X.env = pure true) {spos : Pos} (hsp : spos.line = pos.line := by rfl) (hi' : X.N[i]? = some x := by rfl) (hl : X.env.scope.names.lookup x = some .local := by rfl) (hc : X.calm = true := by rfl) (hm : 1 ≤ m := by decide) (hme : 1 ≤ me := by decide)
    (hz : noz Γ = true := by rfl) (hno : nown Γ (own.map (·.2)) = true := by rfl) (hsl : slotsIn p (own.map (·.2)) = true := by rfl) (hs : ∀ x, foldedSetIterable iter X.env x = pure x := by intro _; rfl) :
    wp X (.Assign [.Name x py] (.ListComp elt [⟨tg, iter, ifs, 0⟩] scope pos) spos :: rest) E σ H :=
  wp_cons (ps_setLc hc hN hi' hl (by rw [hsp]; exact hsw) hi ok hg (fun s H C cl fp => tTs_ok s H C cl fp) (fun s H C cl fp => tEs_ok s H C cl fp) hs) (imp_lc (Q := fun v H' => wp X rest E (σ.set i (some v)) H') hm hme hz hno hsl hlen turn ⟨h, fun v H' ex r => k _ H' ex ((h.grow ex).dat i (by
    have := r.mono (rg_down (m' := min me 2) (Nat.min_le_left _ _) h.h0x)
    match hm : min me 2, Nat.min_le_right me 2 with
    | 0, _ => rw [hm] at this; exact this
    | 1, _ => rw [hm] at this; exact this
    | 2, _ => rw [hm] at this; exact this))⟩)
end
end
end DL

set_option Elab.async false
set_option linter.all false
set_option maxRecDepth 100000
/-! DL6: several names at once; own lists changed; lists joined. -/
namespace DL
open PySem L2

section
variable {Z : Fr} {H H' Hs : Hp} {σ : L2.St} {Γ : List SV} {v : V} {d : D} {ds : List D} {m i : Nat}
theorem Holds.hide' (h : Holds Z σ H Γ) (e : Ex H H') {p : Addr} (hp : H p = none) (hp' : H' p ≠ none) : Holds { Z with ex := p :: Z.ex } σ H' Γ :=
  h.hides (as := [p]) e fun a ha => by rw [List.mem_singleton.mp ha]; exact ⟨hp, hp'⟩
/-- a hidden list becomes a slot's own -/
theorem Holds.claim {l : Addr} {ex : List Addr} {vs : List V} (h : Holds { Z with ex := l :: ex } σ H Γ) (i : Nat) (hl : H l = some (.lst vs)) (h0 : Z.h0 l = none) (hle : l ∉ ex) (hlg : ∀ g ∈ Z.gs, l ∉ g.as) (r : RepL (rg 2 (l :: ex ++ owns σ Γ) Z.h0 Z.h0 H) vs ds) :
    Holds { Z with ex := ex } (σ.set i (some (.ref l))) H (Γ.set i (.own 2 ds)) := by
  have hno : l ∉ owns σ Γ := (h.exd l List.mem_cons_self).2
  obtain ⟨nd, hm⟩ := owns_set_own (l := l) (m := 2) (ds := ds) (σ := σ) (Γ := Γ) i hno h.nd
  have hO1 : ∀ a, a ∈ ex ++ owns (σ.set i (some (.ref l))) (Γ.set i (.own 2 ds)) → a ∈ l :: ex ++ owns σ Γ := fun a z => by
    rcases List.mem_append.mp z with z | z
    · exact List.mem_append_left _ (List.mem_cons_of_mem _ z)
    · rcases hm a z with q | q
      · rw [q]; exact List.mem_append_left _ List.mem_cons_self
      · exact List.mem_append_right _ q
  refine ⟨fun B hB => ⟨(h.ext B hB).1, fun a z => (h.ext B hB).2 a (hO1 a z)⟩, fun a ha => ⟨(h.exd a (List.mem_cons_of_mem _ ha)).1, fun z => ?_⟩, by rw [List.length_set, List.length_set]; exact h.len, nd, fun j o' sv' e1 e2 => ?_, fun g hg => (h.gok g hg).mono (fun a z => .inl (hO1 a z)) (Ex.refl _) (fun a ha => (h.exd a ha).1) (fun a ha z => (List.mem_cons.mp z).resolve_left fun q => hlg g hg (by rw [← q]; exact ha)), h.gap, h.fnt⟩
  · rcases hm a z with q | q
    · subst q; exact hle ha
    · exact (h.exd a (List.mem_cons_of_mem _ ha)).2 q
  · by_cases hj : i = j
    · subst hj
      have hil : i < σ.length := by
        have := (List.getElem?_eq_some_iff.mp e1).1
        rw [List.length_set] at this; exact this
      rw [List.getElem?_set_self hil] at e1
      rw [List.getElem?_set_self (by rw [← h.len]; exact hil)] at e2
      cases e1; cases e2
      exact ⟨l, vs, rfl, hl, h0, r.mono (rg_ex (fun a z => .inl (hO1 a z)) (Ex.refl _) (Ex.refl _))⟩
    · rw [List.getElem?_set_ne hj] at e1 e2
      exact (h.ok j o' sv' e1 e2).mono (fun a z => .inl (hO1 a z)) (Ex.refl _)
/-- how a name is set: its own list, or data -/
structure As where
  own : Bool
  slot : Nat
  mode : Nat
  d : D
def As.sv (a : As) : SV := match a.own, a.d with
  | true, .lst ds => .own 2 ds
  | _, d => .dat (min a.mode 2) d
def As.ok (a : As) : Bool := match a.own, a.d with
  | true, .lst _ => decide (3 ≤ a.mode)
  | true, _ => false
  | false, _ => decide (1 ≤ a.mode)
def setA (σ : L2.St) : List As → List V → L2.St
  | a :: L, v :: vs => (setA σ L vs).set a.slot (some v)
  | _, _ => σ
def setG (Γ : List SV) : List As → List SV
  | a :: L => (setG Γ L).set a.slot a.sv
  | [] => Γ
def wE (X : Cx) (e : Expr) : TE := fun σ H Q => ∃ t, PE X e t ∧ t σ H Q
theorem wE_ok {X : Cx} {e : Expr} : PE X e (wE X e) := ⟨fun pins s σ H Q I ⟨t, h, q⟩ => h.run pins s σ H Q I q⟩
def tWs (X : Cx) : List Expr → TA
  | [] => tNil
  | e :: es => tCons (wE X e) (tWs X es)
def EvK (X : Cx) (Z0 : Fr) (Γ : List SV) : List Expr → List As → Prop
  | [], [] => True
  | e :: es, a :: L => (∀ Z : Fr, Z.h0 = Z0.h0 ∧ Z.gs = Z0.gs → PE X e (tD Z Γ a.mode a.d)) ∧ EvK X Z0 Γ es L
  | _, _ => False
theorem EvK.to {X : Cx} {Z Z' : Fr} {Γ : List SV} (e : Z'.h0 = Z.h0 ∧ Z'.gs = Z.gs) : ∀ {es : List Expr} {L : List As}, EvK X Z Γ es L → EvK X Z' Γ es L
  | [], [], _ => trivial
  | [], _ :: _, h => h.elim
  | _ :: _, [], h => h.elim
  | _ :: _, _ :: _, h => ⟨fun Z2 h2 => h.1 Z2 ⟨h2.1.trans e.1, h2.2.trans e.2⟩, EvK.to e h.2⟩
theorem par_ok {X : Cx} : ∀ {L : List As} {es : List Expr} {Z : Fr} {σ : L2.St} {H : Hp} {Γ : List SV} {Q : List V → Hp → Prop}, EvK X Z Γ es L → L.all As.ok = true → Holds Z σ H Γ →
    (∀ vs H', Ex H H' → vs.length = L.length → Holds Z (setA σ L vs) H' (setG Γ L) → Q vs H') → tWs X es σ H Q
  | [], [], Z, σ, H, Γ, Q, _, _, h, q => q [] H (Ex.refl H) rfl h
  | [], _ :: _, _, _, _, _, _, h, _, _, _ => h.elim
  | _ :: _, [], _, _, _, _, _, h, _, _, _ => h.elim
  | a :: L, e :: es, Z, σ, H, Γ, Q, hE, hL, h, q => by
    obtain ⟨ha, hL'⟩ := Bool.and_eq_true_iff.mp (show (_ && _) = true from hL)
    refine ⟨_, hE.1 Z ⟨rfl, rfl⟩, h, fun v H1 e1 r => ?_⟩
    obtain ⟨ow, sl, md, d⟩ := a
    cases ow with
    | false =>
      have hm : 1 ≤ md := of_decide_eq_true ha
      generalize hB : rg md (Z.O σ Γ) Z.h0 H H1 = B at r
      have h1 : Holds { Z with fs := B :: Z.fs } σ H1 Γ := (h.grow e1).frame (by rw [← hB]; exact rg_le) (by rw [← hB]; exact rg_off hm) (by rw [← hB]; exact fun _ _ => rg_nt)
      refine par_ok (Z := { Z with fs := B :: Z.fs }) (EvK.to (Z := Z) (Z' := { h0 := Z.h0, fs := B :: Z.fs, ex := Z.ex, gs := Z.gs }) ⟨rfl, rfl⟩ hE.2) hL' h1 fun vs H2 e2 hl h2 => q (v :: vs) H2 (e1.trans e2) (congrArg (· + 1) hl) ?_
      have rr : Rep (rg (min md 2) (Z.O (setA σ L vs) (setG Γ L)) Z.h0 Z.h0 H2) v d := r.mono (reg_later hm hB.symm h.h0x h2.stays (h2.ext B (.inr List.mem_cons_self)).2)
      exact h2.unframe.dat sl rr
    | true =>
      cases d with
      | lst ds =>
        have hm : 3 ≤ md := of_decide_eq_true ha
        have r3 : Rep (rg 3 (Z.O σ Γ) Z.h0 H H1) v (.lst ds) := r.mono (rg_down hm h.h0x)
        cases r3 with
        | lst hl hv =>
          rename_i l ws
          have r3 : Rep (rg 3 (Z.O σ Γ) Z.h0 H H1) (.ref l) (.lst ds) := .lst hl hv
          obtain ⟨n1, n2, n3⟩ := reg_some hl
          have hv' : RepL (wo (rg 3 (Z.O σ Γ) Z.h0 H H1) l) ws ds := RepL.wo r3 hv (by simp only [D.lst.sizeOf_spec]; omega)
          generalize hB : wo (rg 3 (Z.O σ Γ) Z.h0 H H1) l = B at hv'
          have hBs : ∀ a o, B a = some o → a ≠ l ∧ a ∉ Z.O σ Γ ∧ H a = none ∧ H1 a = some o ∧ ntb o := fun a o z => by
            rw [← hB] at z
            have hne : a ≠ l := fun q => by rw [q] at z; unfold wo at z; rw [if_pos rfl] at z; cases z
            rw [wo_ne hne] at z
            obtain ⟨z1, z2, z3, z4⟩ := reg_some4 z
            exact ⟨hne, z1, z2, z3, z4⟩
          have hBl : B l = none := by rw [← hB]; unfold wo; rw [if_pos rfl]
          -- l with its content stays as a frame of its own
          let Bl : Hp := fun b => if b = l then none else none
          have h1 : Holds { Z with ex := l :: Z.ex } σ H1 Γ := h.hide' e1 n2 (by rw [n3]; simp)
          have h1' : Holds { Z with fs := B :: Z.fs, ex := l :: Z.ex } σ H1 Γ := h1.frame (Z := { Z with ex := l :: Z.ex }) (fun a o z => (hBs a o z).2.2.2.1) (fun b hb => by
            cases z : B b with
            | none => rfl
            | some o =>
              obtain ⟨z1, z2, _⟩ := hBs b o z
              rcases List.mem_cons.mp (show b ∈ l :: (Z.ex ++ owns σ Γ) from hb) with w | w
              · exact absurd w z1
              · exact absurd w z2) (fun a o z => (hBs a o z).2.2.2.2)
          refine par_ok (Z := { Z with fs := B :: Z.fs, ex := l :: Z.ex }) (EvK.to (Z := Z) (Z' := { h0 := Z.h0, fs := B :: Z.fs, ex := l :: Z.ex, gs := Z.gs }) ⟨rfl, rfl⟩ hE.2) hL' h1' fun vs H2 e2 hln h2 => q (.ref l :: vs) H2 (e1.trans e2) (congrArg (· + 1) hln) ?_
          have hst : Ex B H2 := (h2.ext B (.inr List.mem_cons_self)).1
          have hBO := (h2.ext B (.inr List.mem_cons_self)).2
          have h3 : Holds { Z with ex := l :: Z.ex } (setA σ L vs) H2 (setG Γ L) := h2.unframe (Z := { Z with ex := l :: Z.ex })
          have hle : l ∉ Z.ex := fun z => n1 (List.mem_append_left _ z)
          refine h3.claim (Z := Z) sl (e2 _ _ n3) (Ex.free h.h0x n2) hle (fun g hg z => (h.exd l ((h.gok g hg).1 l z)).1 n2) (hv'.mono fun a o z => ?_)
          show reg _ Z.h0 H2 a = _
          obtain ⟨z1, z2, z3, z4, z5⟩ := hBs a o z
          exact reg_has (fun w => by rw [hBO a w] at z; cases z) (Ex.free h.h0x z3) (hst _ _ z) z5
      | _ => cases ha
end
section
variable {X : Cx} {e a b c : Expr} {pos : Pos} {rest : List Stmt} {E : Ends} {σ : L2.St} {H : Hp} {Z : Fr} {Γ : List SV} {m ma mb i : Nat} {d da db : D} {ds es xs ys : List D}
/-- x, y = a, b: two names of the def (no cells) -/
theorem w_par2 {x y : Str} {px py pt : Pos} {kt k2 : Nat} {pt2 : Pos} (A B : As) (hE : EvK X Z Γ [a, b] [A, B]) (h : Holds Z σ H Γ) (k : ∀ σ' H', Ex H H' → Holds Z σ' H' (setG Γ [A, B]) → wp X rest E σ' H') (hN : X.N.Nodup)
    (hA : [A, B].all As.ok = true := by rfl) (hc : X.calm = true := by rfl) (hi : X.N[A.slot]? = some x := by rfl) (hj : X.N[B.slot]? = some y := by rfl) (hij : A.slot ≠ B.slot := by first | decide | simp) (hx : X.env.scope.names.lookup x = some .local := by rfl) (hy : X.env.scope.names.lookup y = some .local := by rfl)
    (hs1 : starEach [a, b] X.env = (false, eval a X.env) :: starEach [b] X.env := by rfl) (hs2 : starEach [b] X.env = (false, eval b X.env) :: starEach [] X.env := by rfl)
    (hw : swappedStores [.Tuple [.Name x px, .Name y py] kt pt] (.Tuple [a, b] k2 pt2) X.env = pure (some [x, y]) := by rfl)
    (hs : swapsWithSole [.Tuple [.Name x px, .Name y py] kt pt] (.Tuple [a, b] k2 pt2) pos.line X.env = pure false := by rfl) :
    wp X (.Assign [.Tuple [.Name x px, .Name y py] kt pt] (.Tuple [a, b] k2 pt2) pos :: rest) E σ H :=
  wp_cons (ps_par hc hN hi hj hij hx hy (ta := tWs X [a, b]) (pa_cons wE_ok (pa_cons wE_ok pa_nil hs2) hs1) hw hs) (par_ok hE hA h fun vs H' ex hl h' => by
    match vs, hl with
    | [v, w], _ =>
      refine ⟨v, w, rfl, k _ H' ex ?_⟩
      have e : setA σ [A, B] [v, w] = (σ.set A.slot (some v)).set B.slot (some w) := List.set_comm _ _ hij.symm
      rw [← e]; exact h')
theorem w_par3 {x y z : Str} {px py pz pt : Pos} {kt k2 : Nat} {pt2 : Pos} (A B C : As) (hE : EvK X Z Γ [a, b, c] [A, B, C]) (h : Holds Z σ H Γ) (k : ∀ σ' H', Ex H H' → Holds Z σ' H' (setG Γ [A, B, C]) → wp X rest E σ' H') (hN : X.N.Nodup)
    (hA : [A, B, C].all As.ok = true := by rfl) (hc : X.calm = true := by rfl) (hi : X.N[A.slot]? = some x := by rfl) (hj : X.N[B.slot]? = some y := by rfl) (hl : X.N[C.slot]? = some z := by rfl) (hij : A.slot ≠ B.slot := by first | decide | simp) (hil : A.slot ≠ C.slot := by first | decide | simp) (hjl : B.slot ≠ C.slot := by first | decide | simp)
    (hx : X.env.scope.names.lookup x = some .local := by rfl) (hy : X.env.scope.names.lookup y = some .local := by rfl) (hz : X.env.scope.names.lookup z = some .local := by rfl)
    (hs1 : starEach [a, b, c] X.env = (false, eval a X.env) :: starEach [b, c] X.env := by rfl) (hs2 : starEach [b, c] X.env = (false, eval b X.env) :: starEach [c] X.env := by rfl) (hs3 : starEach [c] X.env = (false, eval c X.env) :: starEach [] X.env := by rfl)
    (hw : swappedStores [.Tuple [.Name x px, .Name y py, .Name z pz] kt pt] (.Tuple [a, b, c] k2 pt2) X.env = pure (some [x, y, z]) := by rfl)
    (hs : swapsWithSole [.Tuple [.Name x px, .Name y py, .Name z pz] kt pt] (.Tuple [a, b, c] k2 pt2) pos.line X.env = pure false := by rfl) :
    wp X (.Assign [.Tuple [.Name x px, .Name y py, .Name z pz] kt pt] (.Tuple [a, b, c] k2 pt2) pos :: rest) E σ H :=
  wp_cons (ps_par3 hc hN hi hj hl hij hil hjl hx hy hz (ta := tWs X [a, b, c]) (pa_cons wE_ok (pa_cons wE_ok (pa_cons wE_ok pa_nil hs3) hs2) hs1) hw hs) (par_ok hE hA h fun vs H' ex hl' h' => by
    match vs, hl' with
    | [u, v, w], _ =>
      refine ⟨u, v, w, rfl, k _ H' ex ?_⟩
      have e : setA σ [A, B, C] [u, v, w] = ((σ.set A.slot (some u)).set B.slot (some v)).set C.slot (some w) := by
        show ((σ.set C.slot (some w)).set B.slot (some v)).set A.slot (some u) = _
        rw [List.set_comm (some w) (some v) hjl.symm, List.set_comm (some w) (some u) hil.symm, List.set_comm (some v) (some u) hij.symm]
      rw [← e]; exact h')
/-- x, y, .. = a, b, ..: by a tuple -/
theorem w_part {tgs es' : List Expr} {kt k2 : Nat} {pt pt2 : Pos} (L : List As) (hE : EvK X Z Γ es' L) (h : Holds Z σ H Γ) (k : ∀ σ' H', Ex H H' → Holds Z σ' H' (setG Γ L) → wp X rest E σ' H') (hg : PG X (.Tuple tgs kt pt) (gTup X.K L.length (gPs X.K (L.map fun a => .nm a.slot))))
    (hn : (L.map As.slot).Nodup := by first | decide | simp) (hA : L.all As.ok = true := by rfl) (hsz : L.length ≤ sizeLine := by decide) (hpa : PA X es' (tWs X es') := by exact pa_cons wE_ok (pa_cons wE_ok (pa_cons wE_ok (pa_cons wE_ok pa_nil rfl) rfl) rfl) rfl)
    (hs : swapsWithSole [.Tuple tgs kt pt] (.Tuple es' k2 pt2) pos.line X.env = pure false := by rfl) (hw : swappedStores [.Tuple tgs kt pt] (.Tuple es' k2 pt2) X.env = pure none := by rfl) (h1 : (assignEach [.Tuple tgs kt pt] X.env).map (·.2) = [assign (.Tuple tgs kt pt) X.env] := by rfl) :
    wp X (.Assign [.Tuple tgs kt pt] (.Tuple es' k2 pt2) pos :: rest) E σ H :=
  wp_cons (ps_asg (pe_tup hpa) hg hs hw h1) (par_ok hE hA h fun vs H' ex hl h' => ⟨by rw [hl]; exact hsz, fun p hp => by
    refine ⟨p, vs, rfl, .of upd_same, hl, ?_⟩
    have fin : ∀ {L : List As} {vs : List V} {σ : L2.St} {Q : L2.St → Hp → Prop}, vs.length = L.length → (L.map As.slot).Nodup → Q (setA σ L vs) (upd H' p (.tup (vs))) → True := fun _ _ _ => trivial
    have go : ∀ (L : List As) (vs : List V) (σ : L2.St) (Hx : Hp) (Q : L2.St → Hp → Prop), vs.length = L.length → (L.map As.slot).Nodup → Q (setA σ L vs) Hx → gPs X.K (L.map fun a => .nm a.slot) vs σ Hx Q := by
      intro L
      induction L with
      | nil =>
        intro vs σ Hx Q hl _ q
        match vs, hl with
        | [], _ => exact ⟨rfl, q⟩
      | cons a L ih =>
        intro vs σ Hx Q hl hn q
        match vs, hl with
        | v :: vs, hl =>
          obtain ⟨n1, n2⟩ := List.nodup_cons.mp hn
          refine ⟨v, vs, rfl, ih vs _ Hx Q (Nat.succ.inj hl) n2 ?_⟩
          have comm : ∀ (L : List As) (vs : List V) (σ : L2.St), (∀ b ∈ L, b.slot ≠ a.slot) → setA (σ.set a.slot (some v)) L vs = (setA σ L vs).set a.slot (some v) := by
            intro L
            induction L with
            | nil => intro vs σ _; cases vs <;> rfl
            | cons b L ih =>
              intro vs σ hb
              cases vs with
              | nil => rfl
              | cons w vs =>
                show (setA (σ.set a.slot (some v)) L vs).set b.slot (some w) = ((setA σ L vs).set b.slot (some w)).set a.slot (some v)
                rw [ih vs σ (fun c hc => hb c (List.mem_cons_of_mem _ hc)), List.set_comm _ _ (hb b List.mem_cons_self).symm]
          rw [comm L vs σ fun b hb z => n1 (by rw [← z]; exact List.mem_map.mpr ⟨b, hb, rfl⟩)]
          exact q
    exact go L vs σ _ _ hl hn (k _ _ (ex.trans (Ex.new hp)) (h'.grow (Ex.new hp)))⟩)

/-! ### a slot's own list is changed -/
theorem own_at (h : Holds Z σ H Γ) (hΓ : Γ[i]? = some (.own m ds)) : ∃ l vs, σ[i]? = some (some (.ref l)) ∧ H l = some (.lst vs) ∧ RepL (rg m (Z.O σ Γ) Z.h0 Z.h0 H) vs ds := by
  have hl : i < σ.length := by rw [h.len]; exact (List.getElem?_eq_some_iff.mp hΓ).1
  obtain ⟨l, vs, e, e2, e3, r⟩ := h.ok i σ[i] _ (List.getElem?_eq_getElem hl) hΓ
  exact ⟨l, vs, by rw [List.getElem?_eq_getElem hl, e], e2, r⟩
/-- x.append(e) -/
theorem w_app (i : Nat) {x : Str} {xp ap cp : Pos} (hΓ : Γ[i]? = some (.own m ds)) (he : PE X e (tD Z Γ ma d)) (h : Holds Z σ H Γ) (k : ∀ H', Holds Z σ H' (Γ.set i (.own (min m (min ma 2)) (ds ++ [d]))) → wp X rest E σ H')
    (hz : ds.length < 1000000) (hnz : noz Γ = true := by rfl) (hm : 1 ≤ m := by decide) (hma : 1 ≤ ma := by decide) (hN : X.N[i]? = some x := by rfl) (hv : Vis X.env.scope x := by first | exact Or.inl rfl | exact Or.inr (Or.inl rfl) | exact Or.inr (Or.inr rfl))
    (hd : (x == ("__debug__" : Str)) = false := by decide) (hcd : (x == ("__classdict__" : Str)) = false := by decide) (hst : starEach [e] X.env = (false, eval e X.env) :: starEach [] X.env := by rfl)
    (hfew : ((backTo cp (starEach (e :: []) X.env)).all (fun x => !x.1) && (backToKw cp (keywordEach [] X.env)).all (fun x => x.1.isSome) && decide ((e :: ([] : List Expr)).length + ([] : List Keyword).length + (if ([] : List Keyword).isEmpty then 0 else 1) < 30)) = true := by rfl)
    (hline : (ap.endLine == cp.line) = true := by rfl) (hplain : (backTo cp (starEach [] X.env)).any (·.1) = false := by rfl)
    (hs : swapsWith (.Call (.Attribute (.Name x xp) "append" ap) [e] [] cp) none pos.line X.env = pure false := by rfl) : wp X (.Expr (.Call (.Attribute (.Name x xp) "append" ap) [e] [] cp) pos :: rest) E σ H :=
  wp_cons (ps_expr (pe_bm PySem.F.plainAttrs_list PySem.F.slot_list_append PySem.F.type_list_append mt_append (pe_var hN hv hd hcd) (pa_cons he pa_nil hst) rfl hfew hline hst hplain) hs) (by
    obtain ⟨l, vs, e1, e2, r⟩ := own_at h hΓ
    refine ⟨.ref l, e1, .inl ⟨rfl, _, .of e2⟩, h, fun v H' ex rv => ?_⟩
    have h' := h.grow ex
    have hlen : vs.length < sizeLine := by rw [r.length]; exact Nat.lt_of_lt_of_le hz (by decide)
    refine ⟨l, vs, v, rfl, rfl, ex _ _ e2, hlen, k _ (h'.mutate hnz hΓ e1 (by omega) ?_)⟩
    have r1 : RepL (rg (min m (min ma 2)) (Z.O σ Γ) Z.h0 Z.h0 H') vs ds := (r.mono (rg_ex (fun _ z => .inl z) (Ex.refl _) ex)).mono (rg_down (Nat.min_le_left _ _) (Ex.refl _))
    have r2 : Rep (rg (min m (min ma 2)) (Z.O σ Γ) Z.h0 Z.h0 H') v d := by
      have q := rv.mono (rg_down (m' := min m (min ma 2)) (by omega) h.h0x)
      match hk : min m (min ma 2), (show min m (min ma 2) ≤ 2 by omega) with
      | 0, _ => rw [hk] at q; exact q
      | 1, _ => rw [hk] at q; exact q
      | 2, _ => rw [hk] at q; exact q
    exact r1.append (.cons r2 .nil))
/-- x[j] = e, x an own list -/
theorem w_seti (i : Nat) {j : Nat} {x : Str} {xp ip : Pos} {ix : Expr} {mi : Nat} {z : Int} (hΓ : Γ[i]? = some (.own m ds)) (he : PE X e (tD Z Γ ma d)) (hix : PE X ix (tD Z Γ mi (.int z))) (hj : ixN ds.length z = some j) (h : Holds Z σ H Γ) (k : ∀ H', Holds Z σ H' (Γ.set i (.own (min m (min ma 2)) (ds.set j d))) → wp X rest E σ H')
    (hnz : noz Γ = true := by rfl) (hm : 1 ≤ m := by decide) (hma : 1 ≤ ma := by decide) (hN : X.N[i]? = some x := by rfl) (hv : Vis X.env.scope x := by first | exact Or.inl rfl | exact Or.inr (Or.inl rfl) | exact Or.inr (Or.inr rfl))
    (hd : (x == ("__debug__" : Str)) = false := by decide) (hcd : (x == ("__classdict__" : Str)) = false := by decide)
    (ha : ∀ v, assign (.Subscript (.Name x xp) ix ip) X.env v = (do
      let ov ← holding [v] (eval (.Name x xp) X.env)
      let iv ← holding [v, ov] (eval ix X.env)
      standAt ip
      holding [v, ov, iv] (setItem ov iv v)
      release [v, ov, iv] []) := by intro _; rfl)
    (hs : swapsWithSole [.Subscript (.Name x xp) ix ip] e pos.line X.env = pure false := by rfl) (hw : swappedStores [.Subscript (.Name x xp) ix ip] e X.env = pure none := by rfl) (h1 : (assignEach [.Subscript (.Name x xp) ix ip] X.env).map (·.2) = [assign (.Subscript (.Name x xp) ix ip) X.env] := by rfl) :
    wp X (.Assign [.Subscript (.Name x xp) ix ip] e pos :: rest) E σ H :=
  wp_cons (ps_asg he (pg_sub (pe_var hN hv hd hcd) hix set_list ha) hs hw h1) ⟨h, fun v H1 ex rv => by
    obtain ⟨l, vs, e1, e2, r⟩ := own_at h hΓ
    refine ⟨.ref l, e1, h.grow ex, fun w H2 ex2 rw' => ?_⟩
    cases rw'
    have ex12 := ex.trans ex2
    have h' := h.grow ex12
    refine ⟨l, vs, z, j, rfl, rfl, ex12 _ _ e2, by rw [r.length]; exact hj, k _ (h'.mutate hnz hΓ e1 (by omega) ?_)⟩
    have r1 : RepL (rg (min m (min ma 2)) (Z.O σ Γ) Z.h0 Z.h0 H2) vs ds := (r.mono (rg_ex (fun _ z => .inl z) (Ex.refl _) ex12)).mono (rg_down (Nat.min_le_left _ _) (Ex.refl _))
    have r2 : Rep (rg (min m (min ma 2)) (Z.O σ Γ) Z.h0 Z.h0 H2) v d := by
      have q := (rv.mono (rg_down (m' := min m (min ma 2)) (by omega) h.h0x)).mono (rg_ex (H' := H2) (Hs' := H) (fun _ z => .inl z) (Ex.refl _) ex2)
      match hk : min m (min ma 2), (show min m (min ma 2) ≤ 2 by omega) with
      | 0, _ => rw [hk] at q; exact q
      | 1, _ => rw [hk] at q; exact q
      | 2, _ => rw [hk] at q; exact q
    exact RepL.set r2 j r1⟩
/-! ### lists joined, repeated -/
theorem d_cat (ha : PE X a (tD Z Γ ma (.lst xs))) (hb : PE X b (tD Z Γ mb (.lst ys))) (hl : xs.length + ys.length ≤ sizeLine) : PE X (.BinOp a .Add b pos) (tD Z Γ (min ma mb) (.lst (xs ++ ys))) :=
  pe_imp (pe_op op_cat ha hb) fun σ H Q h => two (fun Q q => q) (fun H Q q => q) h.1 fun x y H' ex r1 r2 => by
    cases r1 with
    | lst h1 k1 =>
      cases r2 with
      | lst h2 k2 =>
        have h' := h.1.grow ex
        refine ⟨_, _, _, _, rfl, rfl, rg_le _ _ h1, rg_le _ _ h2, by rw [k1.length, k2.length]; exact hl, fun p hp => h.2 (.ref p) _ (ex.trans (Ex.new hp)) ?_⟩
        refine .lst (rg_new h'.dom h'.h0x ex hp) (RepL.append ?_ ?_)
        · exact (k1.mono (rg_down (Nat.min_le_left _ _) h.1.h0x)).mono (rg_ex (fun _ z => .inl z) (Ex.refl _) (Ex.new hp))
        · exact (k2.mono (rg_down (Nat.min_le_right _ _) h.1.h0x)).mono (rg_ex (fun _ z => .inl z) (Ex.refl _) (Ex.new hp))
theorem RepL.rep {R : Hp} {vs : List V} (r : RepL R vs ds) : ∀ n : Nat, RepL R (List.replicate n vs).flatten (List.replicate n ds).flatten
  | 0 => .nil
  | n + 1 => by
    rw [List.replicate_succ, List.replicate_succ, List.flatten_cons, List.flatten_cons]
    exact r.append (RepL.rep r n)
theorem d_rep {k : Int} (ha : PE X a (tD Z Γ ma (.lst xs))) (hb : PE X b (tD Z Γ mb (.int k))) (h1 : -(2 ^ 63) ≤ k) (h2 : k < 2 ^ 63) (hl : xs.length * k.toNat ≤ sizeLine) : PE X (.BinOp a .Mult b pos) (tD Z Γ ma (.lst (List.replicate k.toNat xs).flatten)) :=
  pe_imp (pe_op op_rep ha hb) fun σ H Q h => two (fun Q q => q) (fun H Q q => q) h.1 fun x y H' ex r1 r2 => by
    cases r2
    cases r1 with
    | lst q1 k1 =>
      have h' := h.1.grow ex
      refine ⟨_, k, _, rfl, rfl, rg_le _ _ q1, h1, h2, by rw [k1.length]; exact hl, fun p hp => h.2 (.ref p) _ (ex.trans (Ex.new hp)) ?_⟩
      exact .lst (rg_new h'.dom h'.h0x ex hp) ((k1.mono (rg_ex (fun _ z => .inl z) (Ex.refl _) (Ex.new hp))).rep _)
/-- a slot's own list handed back -/
theorem w_retO (i : Nat) {x : Str} {xp : Pos} (hΓ : Γ[i]? = some (.own 2 ds)) (h : Holds Z σ H Γ) (hex : Z.ex = []) (k : ∀ v, Rep (reg [] Z.h0 H) v (.lst ds) → E.rt v H) (hN : X.N[i]? = some x := by rfl) (hv : Vis X.env.scope x := by first | exact Or.inl rfl | exact Or.inr (Or.inl rfl) | exact Or.inr (Or.inr rfl))
    (hd : (x == ("__debug__" : Str)) = false := by decide) (hcd : (x == ("__classdict__" : Str)) = false := by decide) : wp X (.Return (some (.Name x xp)) pos :: rest) E σ H :=
  wp_cons (ps_ret (pe_var hN hv hd hcd)) (by
    obtain ⟨l, vs, e1, e2, r⟩ := own_at h hΓ
    exact ⟨.ref l, e1, k _ (h.freeze hΓ e1 (by decide) hex)⟩)
theorem ret_new {O : List Addr} {H0 Hs H' : Hp} {v : V} (hm : 2 ≤ m) (h0 : Ex H0 Hs) (r : Rep (rg m O H0 Hs H') v d) : Rep (reg [] H0 H') v d :=
  (r.mono (rg_down hm h0)).mono (reg_ex (fun a z => by simp at z) (Ex.refl _) (Ex.refl _))
end
end DL

set_option Elab.async false
set_option linter.all false
set_option maxRecDepth 100000
/-! DL7: a name read whatever its slot holds; defs of the text; built-ins over lists. -/
namespace DL
open PySem L2

def svD : SV → Option (Nat × D)
  | .dat m d => some (min m 2, d)
  | .own _ ds => some (0, .lst ds)
  | _ => none
section
variable {X : Cx} {e a b : Expr} {pos : Pos} {Z : Fr} {Γ : List SV} {m m' ma mb : Nat} {d da db : D} {ds es xs ys : List D}
/-- a name of the def, whatever its slot holds -/
theorem d_x (i : Nat) {x : Str} {m : Nat} {d : D} (hΓ : (Γ[i]?).bind svD = some (m, d)) (hN : X.N[i]? = some x := by rfl) (hv : Vis X.env.scope x := by first | exact Or.inl rfl | exact Or.inr (Or.inl rfl) | exact Or.inr (Or.inr rfl))
    (hd : (x == ("__debug__" : Str)) = false := by decide) (hcd : (x == ("__classdict__" : Str)) = false := by decide) : PE X (.Name x pos) (tD Z Γ m d) := by
  cases q : Γ[i]? with
  | none => rw [q] at hΓ; cases hΓ
  | some sv =>
    rw [q] at hΓ
    cases sv with
    | any => cases hΓ
    | raw v => cases hΓ
    | own k ds =>
      have e := Option.some.inj hΓ
      cases e
      exact d_vo i q hN hv hd hcd
    | dat k d' =>
      have e := Option.some.inj hΓ
      cases e
      by_cases h : k ≤ 2
      · have hk : min k 2 = k := by omega
        rw [hk]
        exact d_v i q hN hv h hd hcd
      · have hk : min k 2 = 2 := by omega
        rw [hk]
        refine pe_imp (pe_var hN hv hd hcd) fun σ H Q ⟨i', q'⟩ => ?_
        have hl : i < σ.length := by rw [i'.len]; exact (List.getElem?_eq_some_iff.mp q).1
        obtain ⟨v, e, r⟩ := i'.ok i σ[i] _ (List.getElem?_eq_getElem hl) q
        refine ⟨v, by rw [List.getElem?_eq_getElem hl, e], q' v H (Ex.refl H) ?_⟩
        match k, h with
        | 0, h => omega
        | 1, h => omega
        | 2, h => omega
        | k + 3, _ => exact r
theorem d_gc {x : Str} {z : Int} (hm : ∃ t, X.mg x = some (.int z t)) (hg : Gl X x := by rfl) (hd : (x == ("__debug__" : Str)) = false := by decide) : PE X (.Name x pos) (tD Z Γ 3 (.int z)) :=
  let ⟨t, h⟩ := hm; d_g h ⟨t, rfl⟩ hg hd

/-! ### len, min, max, list, all, isinstance -/
theorem d_len (hm : X.mg "len" = none) (ha : PE X a (tD Z Γ ma (.lst ds))) (hg : Gl X "len" := by rfl) (he : starEach [a] X.env = (false, eval a X.env) :: starEach [] X.env := by rfl) {p : Pos} (hpl : (backTo pos (starEach [] X.env)).any (·.1) = false := by rfl) : PE X (.Call (.Name "len" p) [a] [] pos) (tD Z Γ 3 (.int (ds.length : Int))) :=
  d_cbS (w := .int (ds.length : Int)) call_len_seq hm (fun H vs Q r q => by
    cases r with
    | cons r1 r2 =>
      cases r2
      cases r1 with
      | lst h1 h2 => exact ⟨_, _, rfl, .inl (.of h1), by rw [h2.length]; exact q⟩) rfl (a_cons ha a_nil he) PySem.boot_len hg (by decide) (by decide) he hpl
theorem d_lenT (hm : X.mg "len" = none) (ha : PE X a (tD Z Γ ma (.tup ds))) (hg : Gl X "len" := by rfl) (he : starEach [a] X.env = (false, eval a X.env) :: starEach [] X.env := by rfl) {p : Pos} (hpl : (backTo pos (starEach [] X.env)).any (·.1) = false := by rfl) : PE X (.Call (.Name "len" p) [a] [] pos) (tD Z Γ 3 (.int (ds.length : Int))) :=
  d_cbS (w := .int (ds.length : Int)) call_len_seq hm (fun H vs Q r q => by
    cases r with
    | cons r1 r2 =>
      cases r2
      cases r1 with
      | tup h1 h2 => exact ⟨_, _, rfl, .inr (.of h1), by rw [h2.length]; exact q⟩) rfl (a_cons ha a_nil he) PySem.boot_len hg (by decide) (by decide) he hpl
/-- list(xs): a new list of the same items -/
theorem d_list (hm : X.mg "list" = none) (ha : PE X a (tD Z Γ ma (.lst ds))) (hg : Gl X "list" := by rfl) (he : starEach [a] X.env = (false, eval a X.env) :: starEach [] X.env := by rfl) {p : Pos} (hpl : (backTo pos (starEach [] X.env)).any (·.1) = false := by rfl) : PE X (.Call (.Name "list" p) [a] [] pos) (tD Z Γ (min ma 3) (.lst ds)) :=
  d_ct (ds := [.lst ds]) call_list_of hm (fun H R vs Q ex r q => by
    cases r with
    | cons r1 r2 =>
      cases r2
      cases r1 with
      | lst h1 h2 =>
        refine ⟨_, _, rfl, .inl (.of (ex _ _ h1)), fun l hl => q _ _ (Ex.new hl) fun R' k1 k2 => .lst (k2 _ _ ?_) (h2.mono k1)⟩
        exact reg_has (by simp) hl upd_same trivial) (a_cons ha a_nil he) (by decide +kernel) hg (by decide) (by decide) he hpl
/-- .. of scalars: all new -/
def scL (ds : List D) : Bool := ds.all fun d => (sc d).isSome
theorem scL_rep {R : Hp} : ∀ {vs : List V} {ds : List D}, RepL R vs ds → scL ds = true → ∀ R' : Hp, RepL R' vs ds
  | _, _, .nil, _, _ => .nil
  | _, _, .cons (d := d) h hs, p, R' => by
    have p' := Bool.and_eq_true_iff.mp (show (_ && _) = true from p)
    obtain ⟨v, hv⟩ := Option.isSome_iff_exists.mp p'.1
    rw [rep_sc hv h]
    exact .cons (sc_rep hv R') (scL_rep hs p'.2 R')
theorem scL_ints (ns : List Int) : scL (ns.map D.int) = true := by
  unfold scL; rw [List.all_map]; exact List.all_eq_true.mpr fun _ _ => rfl
/-- a list of scalars whose own object is new is new -/
theorem d_listS (hm : X.mg "list" = none) (ha : PE X a (tD Z Γ ma (.lst ds))) (hs : scL ds = true) (hg : Gl X "list" := by rfl) (he : starEach [a] X.env = (false, eval a X.env) :: starEach [] X.env := by rfl) {p : Pos} (hpl : (backTo pos (starEach [] X.env)).any (·.1) = false := by rfl) : PE X (.Call (.Name "list" p) [a] [] pos) (tD Z Γ 3 (.lst ds)) :=
  pe_imp (pe_callTy call_list_of hg hm (by decide +kernel) (a_cons ha a_nil he) (by decide) (by decide) he hpl) fun σ H Q h => ⟨h.1, fun vs H1 e1 r => by
    cases r with
    | cons r1 r2 =>
      cases r2
      cases r1 with
      | lst h1 h2 =>
        have h' := h.1.grow e1
        exact ⟨_, _, rfl, .inl (.of (rg_le _ _ h1)), fun l hl => h.2 _ _ (e1.trans (Ex.new hl)) (.lst (rg_new h'.dom h'.h0x e1 hl) (scL_rep h2 hs _))⟩⟩
/-- slices, joins and multiples of lists of scalars are new -/
theorem d_slS {lo hi : Option Expr} {kl kh : Option Int} {p2 : Pos} (h : PE X e (tD Z Γ m (.lst ds))) (hl : PO X lo (tDO Z Γ kl)) (hh : PO X hi (tDO Z Γ kh)) (hs : scL ds = true) : PE X (.Subscript e (.Slice lo hi none p2) pos) (tD Z Γ 3 (.lst (cutD ds kl kh))) :=
  pe_imp (pe_slice sl_list h hl hh) fun σ H Q k => ⟨k.1, fun x H1 e1 r => ⟨k.1.grow e1, fun H2 e2 => ⟨k.1.grow (e1.trans e2), fun H3 e3 => by
    cases r with
    | lst h1 h2 =>
      have e13 := e2.trans e3
      have e03 := e1.trans e13
      refine ⟨_, _, rfl, .of (e13 _ _ (rg_le _ _ h1)), fun p hp => ?_⟩
      refine k.2 (.ref p) _ (e03.trans (Ex.new hp)) (.lst (rg_new (k.1.grow e03).dom (k.1.grow e03).h0x e03 hp) ?_)
      exact RepL.cut (scL_rep h2 hs _) kl kh⟩⟩⟩
theorem d_repS {k : Int} (ha : PE X a (tD Z Γ ma (.lst xs))) (hb : PE X b (tD Z Γ mb (.int k))) (hs : scL xs = true) (h1 : -(2 ^ 63) ≤ k) (h2 : k < 2 ^ 63) (hl : xs.length * k.toNat ≤ sizeLine) : PE X (.BinOp a .Mult b pos) (tD Z Γ 3 (.lst (List.replicate k.toNat xs).flatten)) :=
  pe_imp (pe_op op_rep ha hb) fun σ H Q h => two (fun Q q => q) (fun H Q q => q) h.1 fun x y H' ex r1 r2 => by
    cases r2
    cases r1 with
    | lst q1 k1 =>
      have h' := h.1.grow ex
      exact ⟨_, k, _, rfl, rfl, rg_le _ _ q1, h1, h2, by rw [k1.length]; exact hl, fun p hp => h.2 (.ref p) _ (ex.trans (Ex.new hp)) (.lst (rg_new h'.dom h'.h0x ex hp) (RepL.rep (scL_rep k1 hs _) _))⟩
theorem d_catS (ha : PE X a (tD Z Γ ma (.lst xs))) (hb : PE X b (tD Z Γ mb (.lst ys))) (hs : scL xs = true) (hs' : scL ys = true) (hl : xs.length + ys.length ≤ sizeLine) : PE X (.BinOp a .Add b pos) (tD Z Γ 3 (.lst (xs ++ ys))) :=
  pe_imp (pe_op op_cat ha hb) fun σ H Q h => two (fun Q q => q) (fun H Q q => q) h.1 fun x y H' ex r1 r2 => by
    cases r1 with
    | lst h1 k1 =>
      cases r2 with
      | lst h2 k2 =>
        have h' := h.1.grow ex
        exact ⟨_, _, _, _, rfl, rfl, rg_le _ _ h1, rg_le _ _ h2, by rw [k1.length, k2.length]; exact hl, fun p hp => h.2 (.ref p) _ (ex.trans (Ex.new hp)) (.lst (rg_new h'.dom h'.h0x ex hp) (RepL.append (scL_rep k1 hs _) (scL_rep k2 hs' _)))⟩
/-- the least, the greatest of a list of numbers -/
def minI : List Int → Int
  | [] => 0
  | [x] => x
  | x :: y :: r => min x (minI (y :: r))
theorem minI_spec : ∀ {ns : List Int}, ns ≠ [] → minI ns ∈ ns ∧ ∀ y ∈ ns, minI ns ≤ y
  | [], h => absurd rfl h
  | [x], _ => ⟨List.mem_singleton.mpr rfl, fun y hy => by rw [List.mem_singleton.mp hy]; exact Int.le_refl _⟩
  | x :: y :: r, _ => by
    obtain ⟨h1, h2⟩ := minI_spec (ns := y :: r) (by simp)
    refine ⟨?_, fun z hz => ?_⟩
    · show min x (minI (y :: r)) ∈ _
      by_cases h : x ≤ minI (y :: r)
      · rw [Int.min_eq_left h]; exact List.mem_cons_self
      · rw [Int.min_eq_right (by omega)]; exact List.mem_cons_of_mem _ h1
    · show min x (minI (y :: r)) ≤ z
      rcases List.mem_cons.mp hz with q | q
      · subst q; omega
      · have := h2 z q; omega
theorem minI_eq {ns : List Int} {m : Int} (h1 : m ∈ ns) (h2 : ∀ y ∈ ns, m ≤ y) : m = minI ns := by
  have hne : ns ≠ [] := fun e => by rw [e] at h1; cases h1
  obtain ⟨a, b⟩ := minI_spec hne
  have := h2 _ a
  have := b _ h1
  omega
def maxI : List Int → Int
  | [] => 0
  | [x] => x
  | x :: y :: r => max x (maxI (y :: r))
theorem maxI_spec : ∀ {ns : List Int}, ns ≠ [] → maxI ns ∈ ns ∧ ∀ y ∈ ns, y ≤ maxI ns
  | [], h => absurd rfl h
  | [x], _ => ⟨List.mem_singleton.mpr rfl, fun y hy => by rw [List.mem_singleton.mp hy]; exact Int.le_refl _⟩
  | x :: y :: r, _ => by
    obtain ⟨h1, h2⟩ := maxI_spec (ns := y :: r) (by simp)
    refine ⟨?_, fun z hz => ?_⟩
    · show max x (maxI (y :: r)) ∈ _
      by_cases h : maxI (y :: r) ≤ x
      · rw [Int.max_eq_left h]; exact List.mem_cons_self
      · rw [Int.max_eq_right (by omega)]; exact List.mem_cons_of_mem _ h1
    · show z ≤ max x (maxI (y :: r))
      rcases List.mem_cons.mp hz with q | q
      · subst q; omega
      · have := h2 z q; omega
theorem maxI_eq {ns : List Int} {m : Int} (h1 : m ∈ ns) (h2 : ∀ y ∈ ns, y ≤ m) : m = maxI ns := by
  have hne : ns ≠ [] := fun e => by rw [e] at h1; cases h1
  obtain ⟨a, b⟩ := maxI_spec hne
  have := h2 _ a
  have := b _ h1
  omega
theorem d_min {ns : List Int} (hm : X.mg "min" = none) (ha : PE X a (tD Z Γ ma (dI ns))) (hn : ns ≠ []) (hc : X.calm = true := by rfl) (hg : Gl X "min" := by rfl) (he : starEach [a] X.env = (false, eval a X.env) :: starEach [] X.env := by rfl) {p : Pos} (hpl : (backTo pos (starEach [] X.env)).any (·.1) = false := by rfl) : PE X (.Call (.Name "min" p) [a] [] pos) (tD Z Γ 3 (.int (minI ns))) :=
  d_cbS (w := .int (minI ns)) (cr_min hc) hm (fun H vs Q r q => by
    cases r with
    | cons r1 r2 =>
      cases r2
      cases r1 with
      | lst h1 h2 =>
        rw [RepL.ints_inv h2] at h1
        refine ⟨_, ns, rfl, .of h1, List.length_pos_iff.mpr hn, fun m hm hle => ?_⟩
        rw [minI_eq hm hle]; exact q) rfl (a_cons ha a_nil he) (by decide +kernel) hg (by decide) (by decide) he hpl
theorem d_maxL {ns : List Int} (hm : X.mg "max" = none) (ha : PE X a (tD Z Γ ma (dI ns))) (hn : ns ≠ []) (hc : X.calm = true := by rfl) (hg : Gl X "max" := by rfl) (he : starEach [a] X.env = (false, eval a X.env) :: starEach [] X.env := by rfl) {p : Pos} (hpl : (backTo pos (starEach [] X.env)).any (·.1) = false := by rfl) : PE X (.Call (.Name "max" p) [a] [] pos) (tD Z Γ 3 (.int (maxI ns))) :=
  d_cbS (w := .int (maxI ns)) (cr_max hc) hm (fun H vs Q r q => by
    cases r with
    | cons r1 r2 =>
      cases r2
      cases r1 with
      | lst h1 h2 =>
        rw [RepL.ints_inv h2] at h1
        refine ⟨_, ns, rfl, .of h1, List.length_pos_iff.mpr hn, fun m hm hle => ?_⟩
        rw [maxI_eq hm hle]; exact q) rfl (a_cons ha a_nil he) (by decide +kernel) hg (by decide) (by decide) he hpl
theorem d_sum {ns : List Int} (hm : X.mg "sum" = none) (ha : PE X a (tD Z Γ ma (dI ns))) (hc : X.calm = true := by rfl) (hg : Gl X "sum" := by rfl) (he : starEach [a] X.env = (false, eval a X.env) :: starEach [] X.env := by rfl) {p : Pos} (hpl : (backTo pos (starEach [] X.env)).any (·.1) = false := by rfl) : PE X (.Call (.Name "sum" p) [a] [] pos) (tD Z Γ 3 (.int ns.sum)) :=
  d_cbS (w := .int ns.sum) (cr_sum hc) hm (fun H vs Q r q => by
    cases r with
    | cons r1 r2 =>
      cases r2
      cases r1 with
      | lst h1 h2 =>
        rw [RepL.ints_inv h2] at h1
        exact ⟨_, ns, rfl, .of h1, q⟩) rfl (a_cons ha a_nil he) (by decide +kernel) hg (by decide) (by decide) he hpl
theorem d_max2 {i j : Int} (hm : X.mg "max" = none) (ha : PE X a (tD Z Γ ma (.int i))) (hb : PE X b (tD Z Γ mb (.int j))) (hc : X.calm = true := by rfl) (hg : Gl X "max" := by rfl) (he : starEach [a, b] X.env = (false, eval a X.env) :: starEach [b] X.env := by rfl) (he2 : starEach [b] X.env = (false, eval b X.env) :: starEach [] X.env := by rfl) {p : Pos} (hpl : (backTo pos (starEach [b] X.env)).any (·.1) = false := by rfl) :
    PE X (.Call (.Name "max" p) [a, b] [] pos) (tD Z Γ 3 (.int (max i j))) :=
  d_cbS (w := .int (max i j)) (call_max2 hc) hm (fun H vs Q r q => by
    cases r with
    | cons r1 r2 =>
      cases r1
      cases r2 with
      | cons r2 r3 =>
        cases r3; cases r2
        refine ⟨i, j, rfl, ?_⟩
        have e : (if j > i then j else i) = max i j := by
          by_cases h : j > i
          · rw [if_pos h]; omega
          · rw [if_neg h]; omega
        rw [e]; exact q) rfl (a_cons ha (a_cons hb a_nil he2) he) (by decide +kernel) hg (by decide) (by decide) he hpl
theorem d_min2 {i j : Int} (hm : X.mg "min" = none) (ha : PE X a (tD Z Γ ma (.int i))) (hb : PE X b (tD Z Γ mb (.int j))) (hc : X.calm = true := by rfl) (hg : Gl X "min" := by rfl) (he : starEach [a, b] X.env = (false, eval a X.env) :: starEach [b] X.env := by rfl) (he2 : starEach [b] X.env = (false, eval b X.env) :: starEach [] X.env := by rfl) {p : Pos} (hpl : (backTo pos (starEach [b] X.env)).any (·.1) = false := by rfl) :
    PE X (.Call (.Name "min" p) [a, b] [] pos) (tD Z Γ 3 (.int (min i j))) :=
  d_cbS (w := .int (min i j)) (call_min2 hc) hm (fun H vs Q r q => by
    cases r with
    | cons r1 r2 =>
      cases r1
      cases r2 with
      | cons r2 r3 =>
        cases r3; cases r2
        refine ⟨i, j, rfl, ?_⟩
        have e : (if j < i then j else i) = min i j := by
          by_cases h : j < i
          · rw [if_pos h]; omega
          · rw [if_neg h]; omega
        rw [e]; exact q) rfl (a_cons ha (a_cons hb a_nil he2) he) (by decide +kernel) hg (by decide) (by decide) he hpl
theorem d_all {bs : List Bool} (hm : X.mg "all" = none) (ha : PE X a (tD Z Γ ma (.lst (bs.map D.bl)))) (hc : X.calm = true := by rfl) (hg : Gl X "all" := by rfl) (he : starEach [a] X.env = (false, eval a X.env) :: starEach [] X.env := by rfl) {p : Pos} (hpl : (backTo pos (starEach [] X.env)).any (·.1) = false := by rfl) : PE X (.Call (.Name "all" p) [a] [] pos) (tD Z Γ 3 (.bl (bs.all id))) :=
  d_cbS (w := .bl (bs.all id)) (cr_all hc) hm (fun H vs Q r q => by
    cases r with
    | cons r1 r2 =>
      cases r2
      cases r1 with
      | lst h1 h2 =>
        rw [RepL.bls_inv h2] at h1
        exact ⟨_, bs, rfl, .of h1, q⟩) rfl (a_cons ha a_nil he) (by decide +kernel) hg (by decide) (by decide) he hpl
theorem d_any {bs : List Bool} (hm : X.mg "any" = none) (ha : PE X a (tD Z Γ ma (.lst (bs.map D.bl)))) (hc : X.calm = true := by rfl) (hg : Gl X "any" := by rfl) (he : starEach [a] X.env = (false, eval a X.env) :: starEach [] X.env := by rfl) {p : Pos} (hpl : (backTo pos (starEach [] X.env)).any (·.1) = false := by rfl) : PE X (.Call (.Name "any" p) [a] [] pos) (tD Z Γ 3 (.bl (bs.any id))) :=
  d_cbS (w := .bl (bs.any id)) (cr_any hc) hm (fun H vs Q r q => by
    cases r with
    | cons r1 r2 =>
      cases r2
      cases r1 with
      | lst h1 h2 =>
        rw [RepL.bls_inv h2] at h1
        exact ⟨_, bs, rfl, .of h1, q⟩) rfl (a_cons ha a_nil he) (by decide +kernel) hg (by decide) (by decide) he hpl
/-- isinstance of data against a built-in class -/
def tyD : D → Option String
  | .non => some "NoneType"
  | .bl _ => some "bool"
  | .int _ => some "int"
  | .str _ => some "str"
  | .lst _ => some "list"
  | .tup _ => some "tuple"
  | .emp => some "dict"
  | .obj _ _ _ => none
theorem tyD_ok {K : PySem.W.Frag} {H : Hp} {v : V} {t : String} (r : Rep H v d) (h : tyD d = some t) : TyX K H v (.type t) := by
  cases r <;> cases h
  · exact .base .non
  · exact .base (.bl _)
  · exact .base (.int _)
  · exact .base (.str _)
  · rename_i q _; exact .base (.lst q)
  · rename_i q _; exact .base (.tup q)
  · rename_i q; exact .base (.dK q)
theorem d_isi {T : String} {x : Str} {q : Bool} {t : String} {pT : Pos} (hm : X.mg "isinstance" = none) (ha : PE X a (tD Z Γ ma d)) (hT : X.mg x = none) (ht : tyD d = some t) (hk : kitB t T = some q) (hv : bootBuiltins x = some (.type T) := by decide +kernel) (hgT : Gl X x := by rfl) (hn : x ≠ "__name__" := by decide) (hdb : (x == ("__debug__" : Str)) = false := by decide) (hg : Gl X "isinstance" := by rfl)
    {p : Pos} (he : starEach [a, .Name x pT] X.env = (false, eval a X.env) :: starEach [.Name x pT] X.env := by rfl) (he2 : starEach [.Name x pT] X.env = (false, eval (.Name x pT) X.env) :: starEach [] X.env := by rfl) (hpl : (backTo pos (starEach [.Name x pT] X.env)).any (·.1) = false := by rfl) :
    PE X (.Call (.Name "isinstance" p) [a, .Name x pT] [] pos) (tD Z Γ 3 (.bl q)) :=
  pe_imp (pe_callB call_isi hg hm (by decide +kernel) (pa_cons ha (pa_cons (pe_bltn (v := .ty T) hgT hT hv rfl hn hdb) pa_nil he2) he) (by decide) (by decide) he hpl) fun σ H Q h => ⟨h.1, fun v H1 e1 r =>
    ⟨v, .ty T, .type t, .type T, q, rfl, .ty T, tyD_ok (r.mono rg_le) ht, kit_ty hk, h.2 _ H1 e1 (.bl _)⟩⟩
end

/-! ### the text's defs -/
structure Dfn (K : PySem.W.Frag) (mg : Str → Option Value) (x : Str) (st : Stmt) (ps : List Str) where
  f : Addr
  fd : FuncData
  F : Fun K x x st f fd
  g : mg x = some (.ref f)
  b : Binds K fd ps []
section
variable {P : Program} {w : World} {K : PySem.W.Frag} {mg : Str → Option Value} {base : Heap}
/-- the environment at a def's entry -/
theorem holds_start {N : List Str} {vs : List V} {ds : List D} {H : Hp} (r : RepL H vs ds) (Γ : List SV) (hN : ds.length ≤ N.length) (hΓ : Γ = ds.map (SV.dat 1) ++ List.replicate (N.length - ds.length) .any) : Holds { h0 := H } (L2.start N vs) H Γ := by
  have hlen := r.length
  have no : ∀ (σ : L2.St), owns σ Γ = [] := by
    rw [hΓ]
    have gen : ∀ (ds : List D) (n : Nat) (σ : L2.St), owns σ (ds.map (SV.dat 1) ++ List.replicate n .any) = [] := by
      intro ds
      induction ds with
      | nil =>
        intro n
        induction n with
        | zero => intro σ; rw [List.map_nil, List.replicate_zero, List.append_nil]; cases σ <;> simp [owns]
        | succ n ih =>
          intro σ
          cases σ with
          | nil => unfold owns; rfl
          | cons o σ =>
            rw [List.map_nil, List.nil_append, List.replicate_succ, owns_cons_no (fun ⟨_, _, _, _, e⟩ => by cases e)]
            exact ih σ
      | cons d ds ih =>
        intro n σ
        cases σ with
        | nil => unfold owns; rfl
        | cons o σ =>
          rw [List.map_cons, List.cons_append, owns_cons_no (fun ⟨_, _, _, _, e⟩ => by cases e)]
          exact ih n σ
    exact gen ds _
  have noO : ({ h0 := H } : Fr).O (L2.start N vs) Γ = [] := no _
  refine ⟨fun B hB => ⟨?_, fun l hl => ?_⟩, fun l hl => ?_, ?_, by rw [no]; exact List.nodup_nil, fun i o sv e1 e2 => ?_, fun g hg => absurd hg (by simp), List.Pairwise.nil, fun B hB => absurd hB (by simp)⟩
  · rcases hB with z | z
    · rw [z]; exact Ex.refl _
    · exact absurd z (by simp)
  · rw [noO] at hl; exact absurd hl (by simp)
  · exact absurd hl (by simp)
  · rw [hΓ]
    unfold L2.start
    simp only [List.length_append, List.length_map, List.length_replicate]
    omega
  · rw [noO]
    rw [hΓ] at e2
    by_cases hi : i < ds.length
    · rw [List.getElem?_append_left (by rw [List.length_map]; exact hi), List.getElem?_map, List.getElem?_eq_getElem hi] at e2
      cases e2
      have e1' : (L2.start N vs)[i]? = some (some vs[i]) := by
        unfold L2.start
        rw [List.getElem?_append_left (by rw [List.length_map]; omega), List.getElem?_map, List.getElem?_eq_getElem (by omega)]
        rfl
      rw [e1'] at e1
      cases e1
      obtain ⟨d, hd, rr⟩ := r.get (List.getElem?_eq_getElem (show i < vs.length by omega))
      rw [List.getElem?_eq_getElem hi] at hd
      cases hd
      refine ⟨vs[i], rfl, rr.nt.mono fun a o q => ?_⟩
      show reg [] hn H a = _
      rw [reg_at (by simp) rfl]; exact q
    · rw [List.getElem?_append_right (by rw [List.length_map]; omega), List.getElem?_replicate] at e2
      split at e2
      · cases e2; trivial
      · cases e2
/-- a def that raises nothing keeps a promise of Pur -/
theorem Fun.pur {α : Type} {x qual : Str} {st : Stmt} {f : Addr} {fd : FuncData} {N ps : List Str} {k : Nat} {arg : α → List D} {pre : α → Prop} {res : α → D} (F : Fun K x qual st f fd) (S : FnScope N ps (defScope st)) (len : ∀ a, (arg a).length = ps.length) (hN : ps.length ≤ N.length)
    (hbody : ∀ (cdv : Value) (A : Around) (outer : List Env) (s : Shared) (H : Hp) (σ : L2.St) (E : XK) (Q : VK) (a : α), Room k (A.deeper (PyProof.Rows.envOfC qual (defScope st) s.heap.objs.size f cdv)) → pre a →
      Holds { h0 := H } σ H ((arg a).map (SV.dat 1) ++ List.replicate (N.length - ps.length) .any) → (∀ v H', Ex H H' → Rep (reg [] H H') v (res a) → Q v H') →
      wp (cxOf CX0 P w K mg base N qual (defScope st) f cdv A outer s H E).nox (defBody st) { nx := fun _ H' => Q .non H', rt := Q } σ H) : FnOk P w K mg base CX0 (k + 1) f fd ps (Pur arg pre res) := by
  refine F.ok S (fun vs H Q E h => ?_) fun cdv A outer s H vs Q E hr h => ?_
  · obtain ⟨a, r, _⟩ := h
    rw [r.length, len]
  · obtain ⟨a, r, hp, q⟩ := h
    exact hbody cdv A outer s H (L2.start N vs) E Q a hr hp (holds_start r _ (by rw [len]; exact hN) (by rw [len])) q
/-- a def that may raise -/
theorem Fun.purX {α : Type} {x qual : Str} {st : Stmt} {f : Addr} {fd : FuncData} {N ps : List Str} {k : Nat} {arg : α → List D} {pre : α → Prop} {res : α → Addr ⊕ D} (F : Fun K x qual st f fd) (S : FnScope N ps (defScope st)) (len : ∀ a, (arg a).length = ps.length) (hN : ps.length ≤ N.length)
    (hbody : ∀ (cdv : Value) (A : Around) (outer : List Env) (s : Shared) (H : Hp) (σ : L2.St) (E : XK) (Q : VK) (a : α), Room k (A.deeper (PyProof.Rows.envOfC qual (defScope st) s.heap.objs.size f cdv)) → pre a →
      Holds { h0 := H } σ H ((arg a).map (SV.dat 1) ++ List.replicate (N.length - ps.length) .any) → (match res a with
        | .inr d => ∀ v H', Ex H H' → Rep (reg [] H H') v d → Q v H'
        | .inl C => ∀ H', Ex H H' → E (.ref C) none H') →
      wp (cxOf (L2.CX P w) P w K mg base N qual (defScope st) f cdv A outer s H E) (defBody st) { nx := fun _ H' => Q .non H', rt := Q } σ H) : FnOk P w K mg base (L2.CX P w) (k + 1) f fd ps (PurX arg pre res) := by
  refine F.okX S (fun vs H Q E h => ?_) fun cdv A outer s H vs Q E hr h => ?_
  · obtain ⟨a, r, _⟩ := h
    rw [r.length, len]
  · obtain ⟨a, r, hp, q⟩ := h
    exact hbody cdv A outer s H (L2.start N vs) E Q a hr hp (holds_start r _ (by rw [len]; exact hN) (by rw [len])) q
end
end DL

set_option Elab.async false
set_option linter.all false
set_option maxRecDepth 100000
set_option maxHeartbeats 2000000
/-! EZ: enumerate over a zip of two lists. -/
namespace EZ
open PySem
section
variable {prog : Program} {w : World} {A : Around} {E : Value → Shared → Prop} {s : Shared}
/-- a zip's record, whatever it has handed out -/
abbrev zo (f0 : Value) (fl : Bool) (TI TO : Addr) : Obj := { cls := .type "zip", dict := none, data := .fields #[f0, .bool fl, .bool false, .ref TI, .ref TO], slots := #[] }
theorem free_none {z TI TO : Addr} {fl : Bool} {Q : Bool → Shared → Prop} (hz : s.heap.get? z = some (zo .none fl TI TO)) (h : Q true s) : wpAny (model prog w) A (Builtin.SmallTypes.ownedTupleIsFree (.ref z)) Q E s := by
  unfold Builtin.SmallTypes.ownedTupleIsFree
  exact wpAny_bind (wpAny_field hz rfl (x := .none) rfl (wpAny_pure h))
theorem free_dead {z TI TO T : Addr} {fl : Bool} {Q : Bool → Shared → Prop} (hz : s.heap.get? z = some (zo (rawInt T) fl TI TO)) (hT : s.heap.get? T = none) (h : Q true s) : wpAny (model prog w) A (Builtin.SmallTypes.ownedTupleIsFree (.ref z)) Q E s := by
  unfold Builtin.SmallTypes.ownedTupleIsFree
  refine wpAny_bind (wpAny_field hz rfl (x := rawInt T) rfl ?_)
  show wpAny _ _ (loadIfAlive ((T : Int).toNat) >>= _) _ _ _
  rw [Int.toNat_natCast]
  have dead : ∀ {Q : Option Obj → Shared → Prop}, Q none s → wpAny (model prog w) A (loadIfAlive T) Q E s := fun {Q} q => by
    have q' : Q (s.heap.get? T) s := by rw [hT]; exact q
    exact fun _ _ _ => q'
  refine wpAny_bind (dead ?_)
  simp only [Option.isNone_none, if_true]
  exact wpAny_pure h
/-- the next pair, where the record's own tuple is free -/
theorem next_free {z TI TO i1 i2 l1 l2 : Addr} {k1 k2 : Nat} {xs ys : Array Value} {x y a b f0 : Value} {fl : Bool} {Q : Value → Shared → Prop} (D : ZipApart z TI TO i1 i2 l1 l2)
    (hz : s.heap.get? z = some (zo f0 fl TI TO)) (hfr : ∀ Q : Bool → Shared → Prop, Q true s → wpAny (model prog w) A (Builtin.SmallTypes.ownedTupleIsFree (.ref z)) Q E s) (hTI : IsPair s.heap TI (.ref i1) (.ref i2)) (hTO : IsPair s.heap TO a b)
    (h1 : s.heap.IsListIter i1 l1 k1) (h2 : s.heap.IsListIter i2 l2 k2) (hl1 : s.heap.IsList l1 xs) (hl2 : s.heap.IsList l2 ys) (hx : xs[k1]? = some x) (hy : ys[k2]? = some y)
    (hQ : ∀ h', h'.get? z = some (zo (rawInt s.heap.objs.size) false TI TO) → IsPair h' TO x y → h'.IsListIter i1 l1 (k1 + 1) → h'.IsListIter i2 l2 (k2 + 1) → IsPair h' s.heap.objs.size x y → h'.objs.size = s.heap.objs.size + 1 →
      (∀ c o, c ≠ z → c ≠ TO → c ≠ i1 → c ≠ i2 → s.heap.get? c = some o → h'.get? c = some o) → Q (.ref s.heap.objs.size) { s with heap := h' }) :
    wpAny (model prog w) A (Builtin.«zip.__next__» ⟨[.ref z], []⟩) (fun fin s' => ∃ v, fin = .done (.ret v) ∧ Q v s') E s := by
  show wpAny _ _ (field (.ref z) 2 >>= _) _ _ _
  refine wpAny_bind (wpAny_field hz rfl (x := .bool false) rfl ?_)
  show wpAny _ _ (field (.ref z) 3 >>= _) _ _ _
  refine wpAny_bind (wpAny_field hz rfl (x := .ref TI) rfl ?_)
  refine wpAny_bind (wpAny_seqItems hTI rfl ?_)
  show wpAny _ _ (Builtin.SmallTypes.ownedTupleIsFree (.ref z) >>= _) _ _ _
  refine wpAny_bind (hfr _ ?_)
  simp only [if_true]
  refine wpAny_bind (wpAny_rule (wpAny_bind (wpAny_field hz rfl (x := .ref TO) rfl ?_)))
  refine wpAny_bind (wpAny_setField_rec hz (by simp) fun ha hza sa => ?_)
  replace hza : ha.get? z = some (zo .ellipsis fl TI TO) := hza
  refine wpAny_bind ?_
  simp only [List.zipIdx_cons, List.zipIdx_nil, List.forIn_cons, List.forIn_nil]
  refine wpAny_bind (wpAny_bind (wpAny_onRaise ?_))
  show wpAny _ _ (Builtin.SmallTypes.nextOf (.ref i1) >>= _) _ _ _
  refine wpAny_bind (wpAny_nextOf_list_item (h1.extBut sa.extBut D.i1z) (hl1.extBut sa.extBut D.l1z) hx fun hb i1b sb => wpAny_pure ?_)
  have TOb : IsPair hb TO a b := sb.extBut _ _ D.TOi1 (sa.extBut _ _ D.TOz hTO)
  refine wpAny_bind (wpAny_seqItems TOb rfl (wpAny_bind (wpAny_updateSeq_pair TOb fun hc TOc sc => ?_)))
  replace TOc : IsPair hc TO x b := TOc
  refine wpAny_bind (wpAny_letGo (wpAny_pure (wpAny_bind (wpAny_bind (wpAny_onRaise ?_)))))
  show wpAny _ _ (Builtin.SmallTypes.nextOf (.ref i2) >>= _) _ _ _
  have i2c := ((h2.extBut sa.extBut D.i2z).extBut sb.extBut D.i12.symm).extBut sc.extBut D.TOi2.symm
  have l2c := ((hl2.extBut sa.extBut D.l2z).extBut sb.extBut D.l2i1).extBut sc.extBut D.l2TO
  refine wpAny_bind (wpAny_nextOf_list_item i2c l2c hy fun hd i2d sd => wpAny_pure ?_)
  have TOd : IsPair hd TO x b := sd.extBut _ _ D.TOi2 TOc
  refine wpAny_bind (wpAny_seqItems TOd rfl (wpAny_bind (wpAny_updateSeq_pair TOd fun he TOe se => ?_)))
  replace TOe : IsPair he TO x y := TOe
  refine wpAny_bind (wpAny_letGo (wpAny_pure (wpAny_pure ?_)))
  refine wpAny_bind (wpAny_seqItems TOe rfl (wpAny_bind (wpAny_newTuple ?_)))
  have size : he.objs.size = s.heap.objs.size := by rw [se.1, sd.1, sc.1, sb.1, sa.1]
  have hze : he.get? z = some (zo .ellipsis fl TI TO) := se.extBut _ _ D.TOz.symm (sd.extBut _ _ D.i2z.symm (sc.extBut _ _ D.TOz.symm (sb.extBut _ _ D.i1z.symm hza)))
  have kept : ∀ c o, c ≠ z → c ≠ TO → c ≠ i1 → c ≠ i2 → s.heap.get? c = some o → he.get? c = some o := fun c o n1 n2 n3 n4 q =>
    se.extBut _ _ n2 (sd.extBut _ _ n4 (sc.extBut _ _ n2 (sb.extBut _ _ n3 (sa.extBut _ _ n1 q))))
  have i1e : he.IsListIter i1 l1 (k1 + 1) := ((i1b.extBut sc.extBut D.TOi1.symm).extBut sd.extBut D.i12).extBut se.extBut D.TOi1.symm
  have i2e : he.IsListIter i2 l2 (k2 + 1) := i2d.extBut se.extBut D.TOi2.symm
  have zlt : z < he.objs.size := Heap.lt_size hze
  show wpAny _ _ (Builtin.SmallTypes.ownedTupleHandOut (.ref z) (.ref he.objs.size) >>= _) _ _ _
  refine wpAny_bind ?_
  unfold Builtin.SmallTypes.ownedTupleHandOut
  have hzf : (he.push { cls := .type "tuple", data := .seq #[x, y] }).get? z = some (zo .ellipsis fl TI TO) := Heap.get?_push_of_some _ hze
  refine wpAny_bind (wpAny_setField_rec hzf (by simp) fun hg hzg sg => ?_)
  replace hzg : hg.get? z = some (zo (rawInt he.objs.size) fl TI TO) := hzg
  refine wpAny_setField_rec hzg (by simp) fun hh hzh sh => ?_
  replace hzh : hh.get? z = some (zo (rawInt he.objs.size) false TI TO) := hzh
  have up : ∀ c o, c ≠ z → he.get? c = some o → hh.get? c = some o := fun c o n q => sh.extBut _ _ n (sg.extBut _ _ n (Heap.get?_push_of_some _ q))
  have pair : IsPair hh he.objs.size x y := sh.extBut _ _ (Nat.ne_of_gt zlt) (sg.extBut _ _ (Nat.ne_of_gt zlt) (Heap.get?_push_size _ rfl))
  have size2 : hh.objs.size = he.objs.size + 1 := by rw [sh.1, sg.1, Heap.size_push]
  rw [size] at hzh pair size2
  refine wpAny_pure ⟨_, rfl, ?_⟩
  show Q (.ref he.objs.size) _
  rw [size]
  exact hQ hh hzh (up _ _ D.TOz TOe) (i1e.at fun o q => up _ o D.i1z q) (i2e.at fun o q => up _ o D.i2z q) pair size2 fun c o n1 n2 n3 n4 q => up c o n1 (kept c o n1 n2 n3 n4 q)
/-- how a zip may stand -/
def ZS (h : Heap) (z TI TO : Addr) : Prop := ∃ (f0 : Value) (fl : Bool), h.get? z = some (zo f0 fl TI TO) ∧ (f0 = .none ∨ ∃ T : Addr, f0 = rawInt T) ∧ ∃ a b, IsPair h TO a b
theorem next_any {z TI TO i1 i2 l1 l2 : Addr} {k1 k2 : Nat} {xs ys : Array Value} {x y : Value} {Q : Value → Shared → Prop} (D : ZipApart z TI TO i1 i2 l1 l2)
    (hz : ZS s.heap z TI TO) (hTI : IsPair s.heap TI (.ref i1) (.ref i2))
    (h1 : s.heap.IsListIter i1 l1 k1) (h2 : s.heap.IsListIter i2 l2 k2) (hl1 : s.heap.IsList l1 xs) (hl2 : s.heap.IsList l2 ys) (hx : xs[k1]? = some x) (hy : ys[k2]? = some y)
    (hQ : ∀ h', ZS h' z TI TO → h'.IsListIter i1 l1 (k1 + 1) → h'.IsListIter i2 l2 (k2 + 1) → IsPair h' s.heap.objs.size x y → h'.objs.size = s.heap.objs.size + 1 →
      (∀ c o, c ≠ z → c ≠ TO → c ≠ i1 → c ≠ i2 → s.heap.get? c = some o → h'.get? c = some o) → Q (.ref s.heap.objs.size) { s with heap := h' }) :
    wpAny (model prog w) A (Builtin.«zip.__next__» ⟨[.ref z], []⟩) (fun fin s' => ∃ v, fin = .done (.ret v) ∧ Q v s') E s := by
  obtain ⟨f0, fl, hz, hf, a, b, hTO⟩ := hz
  rcases hf with rfl | ⟨T, rfl⟩
  · exact next_free D hz (fun Q q => free_none hz q) hTI hTO h1 h2 hl1 hl2 hx hy fun h' b1 b2 b3 b4 b5 b6 b7 => hQ h' ⟨_, _, b1, .inr ⟨_, rfl⟩, x, y, b2⟩ b3 b4 b5 b6 b7
  · cases hT : s.heap.get? T with
    | none => exact next_free D hz (fun Q q => free_dead hz hT q) hTI hTO h1 h2 hl1 hl2 hx hy fun h' b1 b2 b3 b4 b5 b6 b7 => hQ h' ⟨_, _, b1, .inr ⟨_, rfl⟩, x, y, b2⟩ b3 b4 b5 b6 b7
    | some oT => exact zip_next_item_held D hz hT hTI h1 h2 hl1 hl2 hx hy fun h' b1 b3 b4 b5 b6 b7 => hQ h' ⟨_, _, b1, .inr ⟨_, rfl⟩, a, b, b7 _ _ D.TOz D.TOi1 D.TOi2 hTO⟩ b3 b4 b5 b6 fun c o n1 n2 n3 n4 q => b7 c o n1 n3 n4 q
/-- the end, the first list used up -/
theorem end_free {z TI TO i1 i2 l1 l2 : Addr} {k1 : Nat} {xs : Array Value} {f0 : Value} {fl : Bool} {Q : Fin → Shared → Prop} (hh : A.handled = none) (D : ZipApart z TI TO i1 i2 l1 l2)
    (hz : s.heap.get? z = some (zo f0 fl TI TO)) (hfr : ∀ Q : Bool → Shared → Prop, Q true s → wpAny (model prog w) A (Builtin.SmallTypes.ownedTupleIsFree (.ref z)) Q E s) (hTI : IsPair s.heap TI (.ref i1) (.ref i2))
    (h1 : s.heap.IsListIter i1 l1 k1) (hl1 : s.heap.IsList l1 xs) (hend : xs[k1]? = none)
    (hE : ∀ h' e, (∀ c o, c ≠ z → c ≠ i1 → s.heap.get? c = some o → h'.get? c = some o) → (∃ o, h'.get? e = some o ∧ o.cls = .type "StopIteration") → E (.ref e) { s with heap := h' }) :
    wpAny (model prog w) A (Builtin.«zip.__next__» ⟨[.ref z], []⟩) Q E s := by
  show wpAny _ _ (field (.ref z) 2 >>= _) _ _ _
  refine wpAny_bind (wpAny_field hz rfl (x := .bool false) rfl ?_)
  show wpAny _ _ (field (.ref z) 3 >>= _) _ _ _
  refine wpAny_bind (wpAny_field hz rfl (x := .ref TI) rfl ?_)
  refine wpAny_bind (wpAny_seqItems hTI rfl ?_)
  show wpAny _ _ (Builtin.SmallTypes.ownedTupleIsFree (.ref z) >>= _) _ _ _
  refine wpAny_bind (hfr _ ?_)
  simp only [if_true]
  refine wpAny_bind (wpAny_rule (wpAny_bind (wpAny_field hz rfl (x := .ref TO) rfl ?_)))
  refine wpAny_bind (wpAny_setField_rec hz (by simp) fun ha hza sa => ?_)
  replace hza : ha.get? z = some (zo .ellipsis fl TI TO) := hza
  refine wpAny_bind ?_
  simp only [List.zipIdx_cons, List.zipIdx_nil, List.forIn_cons, List.forIn_nil]
  refine wpAny_bind (wpAny_bind (wpAny_onRaise ?_))
  show wpAny _ _ (Builtin.SmallTypes.nextOf (.ref i1) >>= _) _ _ _
  refine wpAny_bind (wpAny_nextOf_list_end hh (h1.extBut sa.extBut D.i1z) (hl1.extBut sa.extBut D.l1z) hend fun hb e sb he => ?_)
  obtain ⟨oe, e1, e2⟩ := he
  have hzb : hb.get? z = some (zo .ellipsis fl TI TO) := sb _ _ D.i1z.symm hza
  have ne : e ≠ z := fun q => by rw [q, hzb] at e1; cases e1; simp at e2
  exact wpAny_setField_rec hzb (by simp) fun hc _ sc => hE hc e (fun c o n1 n2 q => sc.extBut _ _ n1 (sb _ _ n2 (sa.extBut _ _ n1 q))) ⟨oe, sc.extBut _ _ ne e1, e2⟩
theorem end_any {z TI TO i1 i2 l1 l2 : Addr} {k1 k2 : Nat} {xs ys : Array Value} {Q : Fin → Shared → Prop} (hh : A.handled = none) (D : ZipApart z TI TO i1 i2 l1 l2) (hz : ZS s.heap z TI TO) (hTI : IsPair s.heap TI (.ref i1) (.ref i2))
    (h1 : s.heap.IsListIter i1 l1 k1) (h2 : s.heap.IsListIter i2 l2 k2) (hl1 : s.heap.IsList l1 xs) (hl2 : s.heap.IsList l2 ys) (hend : xs[k1]? = none)
    (hE : ∀ h' e, (∀ c o, c ≠ z → c ≠ i1 → c ≠ i2 → s.heap.get? c = some o → h'.get? c = some o) → (∃ o, h'.get? e = some o ∧ o.cls = .type "StopIteration") → E (.ref e) { s with heap := h' }) :
    wpAny (model prog w) A (Builtin.«zip.__next__» ⟨[.ref z], []⟩) Q E s := by
  obtain ⟨f0, fl, hz, hf, a, b, hTO⟩ := hz
  rcases hf with rfl | ⟨T, rfl⟩
  · exact end_free hh D hz (fun Q q => free_none hz q) hTI h1 hl1 hend fun h' e k q => hE h' e (fun c o n1 n2 _ x => k c o n1 n2 x) q
  · cases hT : s.heap.get? T with
    | none => exact end_free hh D hz (fun Q q => free_dead hz hT q) hTI h1 hl1 hend fun h' e k q => hE h' e (fun c o n1 n2 _ x => k c o n1 n2 x) q
    | some oT => exact zip_next_end_held hh D hz hT hTI h1 h2 hl1 hl2 (.inl hend) hE
/-- drawn by another iterator -/
theorem zs_type {z TI TO : Addr} (hz : ZS s.heap z TI TO) : s.TypeIs (.ref z) "zip" := by
  obtain ⟨f0, fl, hz, _⟩ := hz
  exact ⟨_, hz, rfl⟩
theorem nextOf_zip {z TI TO i1 i2 l1 l2 : Addr} {k1 k2 : Nat} {xs ys : Array Value} {x y : Value} {Q : Value → Shared → Prop} (D : ZipApart z TI TO i1 i2 l1 l2)
    (hz : ZS s.heap z TI TO) (hTI : IsPair s.heap TI (.ref i1) (.ref i2))
    (h1 : s.heap.IsListIter i1 l1 k1) (h2 : s.heap.IsListIter i2 l2 k2) (hl1 : s.heap.IsList l1 xs) (hl2 : s.heap.IsList l2 ys) (hx : xs[k1]? = some x) (hy : ys[k2]? = some y)
    (hQ : ∀ h', ZS h' z TI TO → h'.IsListIter i1 l1 (k1 + 1) → h'.IsListIter i2 l2 (k2 + 1) → IsPair h' s.heap.objs.size x y → h'.objs.size = s.heap.objs.size + 1 →
      (∀ c o, c ≠ z → c ≠ TO → c ≠ i1 → c ≠ i2 → s.heap.get? c = some o → h'.get? c = some o) → Q (.ref s.heap.objs.size) { s with heap := h' }) :
    wpAny (model prog w) A (Builtin.SmallTypes.nextOf (.ref z)) Q E s := by
  unfold Builtin.SmallTypes.nextOf
  have ht := zs_type hz
  exact wpAny_bind (wpAny_callSpecial?_slot (name := Str.ofString "__next__") ht F.slot_zip_next
    (wpAny_call_entry F.slot_zip_next ht F.entry_zip_next (next_any D hz hTI h1 h2 hl1 hl2 hx hy fun h' b1 b2 b3 b4 b5 b6 => wpAny_pure (hQ h' b1 b2 b3 b4 b5 b6)) (F.args_zip_next_1 _)))
theorem nextOf_zip_end {z TI TO i1 i2 l1 l2 : Addr} {k1 k2 : Nat} {xs ys : Array Value} {Q : Value → Shared → Prop} (hh : A.handled = none) (D : ZipApart z TI TO i1 i2 l1 l2) (hz : ZS s.heap z TI TO) (hTI : IsPair s.heap TI (.ref i1) (.ref i2))
    (h1 : s.heap.IsListIter i1 l1 k1) (h2 : s.heap.IsListIter i2 l2 k2) (hl1 : s.heap.IsList l1 xs) (hl2 : s.heap.IsList l2 ys) (hend : xs[k1]? = none)
    (hE : ∀ h' e, (∀ c o, c ≠ z → c ≠ i1 → c ≠ i2 → s.heap.get? c = some o → h'.get? c = some o) → (∃ o, h'.get? e = some o ∧ o.cls = .type "StopIteration") → E (.ref e) { s with heap := h' }) :
    wpAny (model prog w) A (Builtin.SmallTypes.nextOf (.ref z)) Q E s := by
  unfold Builtin.SmallTypes.nextOf
  have ht := zs_type hz
  exact wpAny_bind (wpAny_callSpecial?_slot (name := Str.ofString "__next__") ht F.slot_zip_next
    (wpAny_call_entry F.slot_zip_next ht F.entry_zip_next (end_any hh D hz hTI h1 h2 hl1 hl2 hend hE) (F.args_zip_next_1 _)))
/-- enumerate's own turn over it -/
theorem enum_item {e z TI TO i1 i2 l1 l2 : Addr} {i : Nat} {xs ys : Array Value} {x y old : Value} {Q : Value → Shared → Prop} (D : ZipApart z TI TO i1 i2 l1 l2) (he : IsEnum s.heap e z i old) (hne : e ≠ z ∧ e ≠ TI ∧ e ≠ TO ∧ e ≠ i1 ∧ e ≠ i2)
    (hz : ZS s.heap z TI TO) (hTI : IsPair s.heap TI (.ref i1) (.ref i2)) (h1 : s.heap.IsListIter i1 l1 i) (h2 : s.heap.IsListIter i2 l2 i) (hl1 : s.heap.IsList l1 xs) (hl2 : s.heap.IsList l2 ys) (hx : xs[i]? = some x) (hy : ys[i]? = some y)
    (hQ : ∀ h' new, IsEnumOut h' e z ((i : Int) + 1) new (s.heap.objs.size + 1) → ZS h' z TI TO → IsPair h' TI (.ref i1) (.ref i2) → h'.IsListIter i1 l1 (i + 1) → h'.IsListIter i2 l2 (i + 1) → IsPair h' s.heap.objs.size x y →
      IsPair h' (s.heap.objs.size + 1) (.int i s.toks) (.ref s.heap.objs.size) → h'.objs.size = s.heap.objs.size + 2 →
      (∀ c o, c ≠ e → c ≠ z → c ≠ TO → c ≠ i1 → c ≠ i2 → s.heap.get? c = some o → h'.get? c = some o) → Q (.ref (s.heap.objs.size + 1)) { s with heap := h', toks := s.toks + 1 }) :
    wpAny (model prog w) A (Builtin.«enumerate.__next__» ⟨[.ref e], []⟩) (fun fin s' => ∃ v, fin = .done (.ret v) ∧ Q v s') E s := by
  obtain ⟨hp, g, d, tk, os⟩ := s
  obtain ⟨n0, n1, n2, n3, n4⟩ := hne
  show wpAny _ _ (field (.ref e) 2 >>= _) _ _ _
  refine wpAny_bind (wpAny_field he rfl (x := .ref z) rfl ?_)
  refine wpAny_bind (nextOf_zip D hz hTI h1 h2 hl1 hl2 hx hy fun ha za i1a i2a pa sza ka => ?_)
  have ea : IsEnum ha e z i old := ka _ _ n0 n2 n3 n4 he
  have TIa : IsPair ha TI (.ref i1) (.ref i2) := ka _ _ D.TIz D.TITO D.TIi1 D.TIi2 hTI
  show wpAny _ _ (field (.ref e) 3 >>= _) _ _ ⟨ha, g, d, tk, os⟩
  refine wpAny_bind (wpAny_field ea rfl (x := rawInt i) rfl ?_)
  show wpAny _ _ (field (.ref e) 4 >>= _) _ _ ⟨ha, g, d, tk, os⟩
  refine wpAny_bind (wpAny_field ea rfl (x := .none) rfl ?_)
  show wpAny _ _ (mkInt i >>= _) _ _ ⟨ha, g, d, tk, os⟩
  refine wpAny_bind (wpAny_mkInt ?_)
  show wpAny _ _ (setField (.ref e) 3 (rawInt ((i : Int) + 1)) >>= _) _ _ ⟨ha, g, d, tk + 1, os⟩
  refine wpAny_bind (wpAny_setField_rec ea (by simp) fun hb eb sb => ?_)
  replace sb : Heap.SameBut e ha hb := sb
  replace eb : IsEnum hb e z ((i : Int) + 1) old := eb
  show wpAny _ _ (setField (.ref e) 4 .none >>= _) _ _ ⟨hb, g, d, tk + 1, os⟩
  refine wpAny_bind (wpAny_setField_rec eb (by simp) fun hc ec sc => ?_)
  replace sc : Heap.SameBut e hb hc := sc
  replace ec : IsEnum hc e z ((i : Int) + 1) old := ec
  show wpAny _ _ (newTuple [.int i tk, .ref hp.objs.size] >>= _) _ _ ⟨hc, g, d, tk + 1, os⟩
  refine wpAny_bind (wpAny_newTuple ?_)
  have ed : IsEnum (hc.push { cls := .type "tuple", data := .seq #[.int i tk, .ref hp.objs.size] }) e z ((i : Int) + 1) old := Heap.get?_push_of_some _ ec
  generalize gd : hc.push { cls := .type "tuple", data := .seq #[.int i tk, .ref hp.objs.size] } = hd at ed
  have szc : hc.objs.size = hp.objs.size + 1 := by rw [sc.1, sb.1]; exact sza
  have elt : e < hp.objs.size := Heap.lt_size he
  have td : IsPair hd (hp.objs.size + 1) (.int i tk) (.ref hp.objs.size) := by
    show hd.get? _ = _
    rw [← gd, ← szc]; exact Heap.get?_push_size _ rfl
  have szd : hd.objs.size = hp.objs.size + 2 := by rw [← gd, Heap.size_push, szc]
  have kd : ∀ c o, c ≠ e → ha.get? c = some o → hd.get? c = some o := fun c o m q => by
    rw [← gd]; exact Heap.get?_push_of_some _ (sc.extBut c o m (sb.extBut c o m q))
  show wpAny _ _ (Builtin.SmallTypes.ownedTupleIsFree (.ref e) >>= _) _ _ ⟨hd, g, d, tk + 1, os⟩
  rw [szc]
  refine wpAny_bind ?_
  unfold Builtin.SmallTypes.ownedTupleIsFree
  refine wpAny_bind (wpAny_field ed rfl (x := .none) rfl (wpAny_pure ?_))
  simp only [if_true]
  refine wpAny_bind (wpAny_rule (wpAny_bind (wpAny_field ed rfl (x := old) rfl ?_)))
  refine wpAny_bind (wpAny_setField_rec ed (by simp) fun h5 e5 s5 => ?_)
  replace s5 : Heap.SameBut e hd h5 := s5
  replace e5 : IsEnum h5 e z ((i : Int) + 1) (.ref hp.objs.size) := e5
  show wpAny _ _ (Builtin.SmallTypes.ownedTupleHandOut (.ref e) (.ref (hp.objs.size + 1)) >>= _) _ _ ⟨h5, g, d, tk + 1, os⟩
  refine wpAny_bind ?_
  unfold Builtin.SmallTypes.ownedTupleHandOut
  refine wpAny_bind (wpAny_setField_rec e5 (by simp) fun h6 e6 s6 => ?_)
  replace s6 : Heap.SameBut e h5 h6 := s6
  replace e6 : IsEnumOut h6 e z ((i : Int) + 1) (.ref hp.objs.size) (hp.objs.size + 1) := e6
  refine wpAny_setField_rec e6 (by simp) fun h7 e7 s7 => ?_
  replace s7 : Heap.SameBut e h6 h7 := s7
  replace e7 : IsEnumOut h7 e z ((i : Int) + 1) (.ref hp.objs.size) (hp.objs.size + 1) := e7
  have up : ∀ c o, c ≠ e → hd.get? c = some o → h7.get? c = some o := fun c o m q => s7.extBut c o m (s6.extBut c o m (s5.extBut c o m q))
  have up2 : ∀ c o, c ≠ e → ha.get? c = some o → h7.get? c = some o := fun c o m q => up c o m (kd c o m q)
  have z7 : ZS h7 z TI TO := by
    obtain ⟨f0, fl, q1, q2, a, b, q3⟩ := za
    exact ⟨f0, fl, up2 _ _ n0.symm q1, q2, a, b, up2 _ _ n2.symm q3⟩
  refine wpAny_bind (wpAny_letGo (wpAny_pure ⟨_, rfl, hQ h7 _ e7 z7 (up2 _ _ n1.symm TIa) (i1a.at fun o q => up2 _ o n3.symm q) (i2a.at fun o q => up2 _ o n4.symm q) (up2 _ _ (Nat.ne_of_gt elt) pa) (up _ _ (Nat.ne_of_gt (Nat.lt_succ_of_lt elt)) td) ?_ ?_⟩))
  · rw [s7.1, s6.1, s5.1, szd]
  · exact fun c o m1 m2 m3 m4 m5 q => up2 c o m1 (ka c o m2 m3 m4 m5 q)
theorem pyNext_item {e z TI TO i1 i2 l1 l2 : Addr} {i : Nat} {xs ys : Array Value} {x y old : Value} {Q : Option Value → Shared → Prop} (D : ZipApart z TI TO i1 i2 l1 l2) (he : IsEnum s.heap e z i old) (hne : e ≠ z ∧ e ≠ TI ∧ e ≠ TO ∧ e ≠ i1 ∧ e ≠ i2)
    (hz : ZS s.heap z TI TO) (hTI : IsPair s.heap TI (.ref i1) (.ref i2)) (h1 : s.heap.IsListIter i1 l1 i) (h2 : s.heap.IsListIter i2 l2 i) (hl1 : s.heap.IsList l1 xs) (hl2 : s.heap.IsList l2 ys) (hx : xs[i]? = some x) (hy : ys[i]? = some y)
    (hQ : ∀ h' new, IsEnumOut h' e z ((i : Int) + 1) new (s.heap.objs.size + 1) → ZS h' z TI TO → IsPair h' TI (.ref i1) (.ref i2) → h'.IsListIter i1 l1 (i + 1) → h'.IsListIter i2 l2 (i + 1) → IsPair h' s.heap.objs.size x y →
      IsPair h' (s.heap.objs.size + 1) (.int i s.toks) (.ref s.heap.objs.size) → h'.objs.size = s.heap.objs.size + 2 →
      (∀ c o, c ≠ e → c ≠ z → c ≠ TO → c ≠ i1 → c ≠ i2 → s.heap.get? c = some o → h'.get? c = some o) → Q (some (.ref (s.heap.objs.size + 1))) { s with heap := h', toks := s.toks + 1 }) :
    wpAny (model prog w) A (pyNext (.ref e)) Q E s := by
  have ht : s.TypeIs (.ref e) "enumerate" := ⟨_, he, rfl⟩
  unfold pyNext
  exact wpAny_bind (wpAny_attempt (wpAny_callSpecial?_slot (name := Str.ofString "__next__") ht F.slot_enumerate_next
    (wpAny_call_entry F.slot_enumerate_next ht F.entry_enumerate_next
      (enum_item D he hne hz hTI h1 h2 hl1 hl2 hx hy fun h' n b1 b2 b3 b4 b5 b6 b7 b8 b9 => wpAny_pure (hQ h' n b1 b2 b3 b4 b5 b6 b7 b8 b9)) (F.args_enumerate_next_1 _))))
theorem pyNext_end {e z TI TO i1 i2 l1 l2 : Addr} {i : Nat} {xs ys : Array Value} {old : Value} {Q : Option Value → Shared → Prop} (hh : A.handled = none) (D : ZipApart z TI TO i1 i2 l1 l2) (he : IsEnum s.heap e z i old)
    (hz : ZS s.heap z TI TO) (hTI : IsPair s.heap TI (.ref i1) (.ref i2)) (h1 : s.heap.IsListIter i1 l1 i) (h2 : s.heap.IsListIter i2 l2 i) (hl1 : s.heap.IsList l1 xs) (hl2 : s.heap.IsList l2 ys) (hend : xs[i]? = none)
    (hQ : ∀ h', (∀ c o, c ≠ z → c ≠ i1 → c ≠ i2 → s.heap.get? c = some o → h'.get? c = some o) → Q none { s with heap := h' }) : wpAny (model prog w) A (pyNext (.ref e)) Q E s := by
  have ht : s.TypeIs (.ref e) "enumerate" := ⟨_, he, rfl⟩
  unfold pyNext
  refine wpAny_bind (wpAny_attempt (wpAny_callSpecial?_slot (name := Str.ofString "__next__") ht F.slot_enumerate_next
    (wpAny_call_entry F.slot_enumerate_next ht F.entry_enumerate_next ?_ (F.args_enumerate_next_1 _))))
  show wpAny _ _ (field (.ref e) 2 >>= _) _ _ _
  refine wpAny_bind (wpAny_field he rfl (x := .ref z) rfl ?_)
  refine wpAny_bind (nextOf_zip_end hh D hz hTI h1 h2 hl1 hl2 hend fun h' x k q => ?_)
  obtain ⟨o, ho, hc⟩ := q
  refine wpAny_bind (wpAny_isInstance (T := "StopIteration") (b := true) ⟨o, ho, hc⟩ isSubtype_stop ?_)
  exact wpAny_pure (hQ _ k)
end
/-- enumerate(z) made -/
theorem meets_new (z : Addr) (f0 : Value) (TI TO : Addr) :
    Meets (Builtin.«enumerate.__new__» ⟨[.type "enumerate", .ref z], []⟩) (fun _ R s => IsZip s.heap z TI TO f0 ∧
      R (.ok (.ret (.ref s.heap.objs.size))) { s with heap := s.heap.push { cls := .type "enumerate", data := .fields #[.none, .bool false, .ref z, rawInt 0, .none, .none] } }) :=
  .of_wp fun prog w A R s h => by
    obtain ⟨hp, g, d, tk, os⟩ := s; obtain ⟨hz, h⟩ := h
    have hsub := sub_enumerate
    have hz' : IsZip (Shared.heap ⟨hp, g, d, tk, os⟩) z TI TO f0 := hz
    wp_walk using AutoSeq1.wpAny_loadPart' hz
    refine wpAny_stack_any fun st => wpAny_pure ?_
    split
    · rename_i c _ _ _ _ _
      cases (c == Value.type "enumerate")
      · wp_walk using AutoSeq1.wpAny_loadPart' hz, wpAny_pyIter_zip hz'
        exact ⟨_, rfl, h⟩
      · wp_walk using AutoSeq1.wpAny_loadPart' hz, wpAny_pyIter_zip hz'
        exact ⟨_, rfl, h⟩
    · wp_walk using AutoSeq1.wpAny_loadPart' hz, wpAny_pyIter_zip hz'
      exact ⟨_, rfl, h⟩
end EZ

set_option Elab.async false
set_option linter.all false
set_option maxRecDepth 100000
set_option maxHeartbeats 2000000
/-! EZ2: enumerate(zip(a, b)) as what is walked. -/
namespace EZ
open PySem L2
/-- items of two lists of one length, counted: (i, (x, y)) -/
def Itez (K : PySem.W.Frag) (a b : Addr) : It :=
  ⟨fun i H => ∃ (xs ys : List V) (x y : V), SqL K H a xs ∧ SqL K H b ys ∧ xs[i]? = some x ∧ ys[i]? = some y,
    fun i H v H' => ∃ T T2 x y, v = .ref T2 ∧ H T = none ∧ H T2 = none ∧ T ≠ T2 ∧ H' = upd (upd H T (.tup [x, y])) T2 (.tup [.int (i : Nat), .ref T]) ∧ (∀ xs, SqL K H a xs → xs[i]? = some x) ∧ ∀ ys, SqL K H b ys → ys[i]? = some y,
    fun i H => ∃ xs ys : List V, SqL K H a xs ∧ SqL K H b ys ∧ xs.length ≤ i⟩
structure Away (e z TI TO i1 i2 : Addr) : Prop where
  p : e ≠ z ∧ e ≠ TI ∧ e ≠ TO ∧ e ≠ i1 ∧ e ≠ i2
theorem turn_ez {P : Program} {w : World} {K : PySem.W.Frag} {elts : List Expr} {kk : Nat} {tpos : Pos} {a b e z TI TO i1 i2 : Addr} (D : ZipApart z TI TO i1 i2 a b) (W : Away e z TI TO i1 i2) :
    Turn P w K (.Tuple elts kk tpos) (Itez K a b) [e, z, TI, TO, i1, i2] e (fun i h => (∃ old, IsEnum h e z ((i : Nat) : Int) old) ∧ ZS h z TI TO ∧ IsPair h TI (.ref i1) (.ref i2) ∧ h.IsListIter i1 a i ∧ h.IsListIter i2 b i) where
  mem := by simp
  obj := fun i h st c hc => by
    obtain ⟨⟨old, he⟩, ⟨f0, fl, hz, _, x, y, hTO⟩, hTI, ⟨o1, e1, _, d1⟩, ⟨o2, e2, _, d2⟩⟩ := st
    have q : c = e ∨ c = z ∨ c = TI ∨ c = TO ∨ c = i1 ∨ c = i2 := by simpa using hc
    rcases q with q | q | q | q | q | q
    · rw [q]; exact ⟨_, he, fun v q => nomatch q⟩
    · rw [q]; exact ⟨_, hz, fun v q => nomatch q⟩
    · rw [q]; exact ⟨_, hTI, fun v q => nomatch q⟩
    · rw [q]; exact ⟨_, hTO, fun v q => nomatch q⟩
    · rw [q]; exact ⟨o1, e1, fun v q => by rw [d1] at q; cases q⟩
    · rw [q]; exact ⟨o2, e2, fun v q => by rw [d2] at q; cases q⟩
  keep := fun i h h' st k => by
    obtain ⟨⟨old, he⟩, ⟨f0, fl, hz, hf, x, y, hTO⟩, hTI, h1, h2⟩ := st
    exact ⟨⟨old, k e (by simp) _ he⟩, ⟨f0, fl, k z (by simp) _ hz, hf, x, y, k TO (by simp) _ hTO⟩, k TI (by simp) _ hTI, h1.at fun o q => k i1 (by simp) o q, h2.at fun o q => k i2 (by simp) o q⟩
  item := by
    intro X hP hw hK hc i pins s σ H E I hf st hg
    subst hP hw hK
    obtain ⟨⟨old, he⟩, hz, hTI, h1, h2⟩ := st
    obtain ⟨xs, ys, x, y, hqx, hqy, hx, hy⟩ := hg
    obtain ⟨its, rv, p, _⟩ := I.list hqx
    obtain ⟨its2, rv2, p2, _⟩ := I.list hqy
    obtain ⟨u, hu, ru⟩ := rv.get hx
    obtain ⟨u2, hu2, ru2⟩ := rv2.get hy
    have elt : e < s.heap.objs.size := Heap.lt_size he
    refine pyNext_item D he W.p hz hTI h1 h2 p.isList p2.isList (x := u) (y := u2) (by simpa using hu) (by simpa using hu2) fun h' new eo zs TI' j1 j2 pr tp sz kp => ?_
    refine ⟨_, rfl, wpAny_letOwnedTupleGo_enum (s := { s with heap := h', toks := s.toks + 1 }) eo fun h2' e' sb => ?_⟩
    have pr2 : IsPair h2' s.heap.objs.size u u2 := (sb.2 _ (Nat.ne_of_gt elt)).trans pr
    have tp2 : IsPair h2' (s.heap.objs.size + 1) (.int i s.toks) (.ref s.heap.objs.size) := (sb.2 _ (Nat.ne_of_gt (Nat.lt_succ_of_lt elt))).trans tp
    -- the pair first
    have sz1 : (s.heap.push { cls := .type "tuple", data := .seq #[u, u2] }).objs.size = s.heap.objs.size + 1 := Heap.size_push ..
    have I1 : Inv X pins σ (upd H s.heap.objs.size (.tup [x, y])) { s with heap := s.heap.push { cls := .type "tuple", data := .seq #[u, u2] }, toks := s.toks } :=
      I.laid (t' := s.toks) (fun c o q => Heap.get?_push_of_some _ q) (Nat.le_refl _) ⟨by show 2 ≤ sizeLine; decide, [u, u2], .cons ru (.cons ru2 .nil), ⟨_, Heap.get?_push_size _ rfl, rfl, _, rfl⟩⟩
    have lt : ∀ c ∈ [e, z, TI, TO, i1, i2], c < s.heap.objs.size := fun c hcm => by
      have q : c = e ∨ c = z ∨ c = TI ∨ c = TO ∨ c = i1 ∨ c = i2 := by simpa using hcm
      obtain ⟨f0, fl, hz, _, _, _, hTO⟩ := hz
      rcases q with q | q | q | q | q | q
      · rw [q]; exact elt
      · rw [q]; exact Heap.lt_size hz
      · rw [q]; exact Heap.lt_size hTI
      · rw [q]; exact Heap.lt_size hTO
      · rw [q]; obtain ⟨_, e1, _⟩ := h1; exact Heap.lt_size e1
      · rw [q]; obtain ⟨_, e2, _⟩ := h2; exact Heap.lt_size e2
    have hf1 : ∀ c ∈ [e, z, TI, TO, i1, i2], FpOk X pins (upd H s.heap.objs.size (.tup [x, y])) c := fun c hcm => by
      obtain ⟨f1, f2⟩ := hf c hcm
      exact ⟨by rw [upd_ne (Nat.ne_of_lt (lt c hcm))]; exact f1, f2⟩
    have I2 : Inv X pins σ (upd (upd H s.heap.objs.size (.tup [x, y])) (s.heap.objs.size + 1) (.tup [.int (i : Nat), .ref s.heap.objs.size])) { s with heap := h2', toks := s.toks + 1 } :=
      I1.turnedNew (ch := [e, z, TI, TO, i1, i2]) (fun c o hb q => by
        by_cases hcs : c = s.heap.objs.size
        · rw [hcs] at q ⊢
          have q0 : (s.heap.push { cls := .type "tuple", data := .seq #[u, u2] }).get? s.heap.objs.size = some { cls := .type "tuple", data := .seq #[u, u2] } := Heap.get?_push_size _ rfl
          rw [q0] at q; cases q
          exact pr2
        · have hlt : c < s.heap.objs.size := by
            have := Heap.lt_size q
            rw [sz1] at this
            exact Nat.lt_of_le_of_ne (Nat.lt_succ_iff.mp this) hcs
          have q1 : s.heap.get? c = some o := by rw [← Heap.get?_push_ne _ _ _ hcs]; exact q
          exact (sb.2 c (fun z' => hb (by simp [z']))).trans (kp c o (fun z' => hb (by simp [z'])) (fun z' => hb (by simp [z'])) (fun z' => hb (by simp [z'])) (fun z' => hb (by simp [z'])) (fun z' => hb (by simp [z'])) q1)) hf1
        (by show (s.heap.push _).objs.size ≤ _; rw [sz1]; exact Nat.le_refl _) ⟨by show 2 ≤ sizeLine; decide, [.int i s.toks, .ref s.heap.objs.size], .cons ⟨_, rfl⟩ (.cons rfl .nil), ⟨_, tp2, rfl, _, rfl⟩⟩
    have hn : H s.heap.objs.size = none := I.hok.fresh (Nat.le_refl _)
    have hn2 : H (s.heap.objs.size + 1) = none := I.hok.fresh (Nat.le_succ _)
    refine ⟨.ref (s.heap.objs.size + 1), _, I2, rfl, ⟨s.heap.objs.size, _, x, y, rfl, hn, hn2, Nat.ne_of_lt (Nat.lt_succ_self _), rfl, fun l hl => by rw [I.list_inj hl hqx]; exact hx, fun l hl => by rw [I.list_inj hl hqy]; exact hy⟩, ⟨⟨new, ?_⟩, ?_, ?_, ?_, ?_⟩, fun c hcm => ?_⟩
    · have e1 : ((i + 1 : Nat) : Int) = (i : Int) + 1 := by omega
      rw [e1]; exact e'
    · obtain ⟨f0, fl, q1, q2, x', y', q3⟩ := zs
      exact ⟨f0, fl, (sb.2 _ W.p.1.symm).trans q1, q2, x', y', (sb.2 _ W.p.2.2.1.symm).trans q3⟩
    · exact (sb.2 _ W.p.2.1.symm).trans TI'
    · exact j1.at fun o q => (sb.2 _ W.p.2.2.2.1.symm).trans q
    · exact j2.at fun o q => (sb.2 _ W.p.2.2.2.2.symm).trans q
    · have := lt c hcm
      rw [upd_ne (Nat.ne_of_lt (Nat.lt_succ_of_lt this)), upd_ne (Nat.ne_of_lt this)]
      exact (hf c hcm).1
  done := by
    intro X hP hw hK hc i pins s σ H E I hf st hg
    subst hP hw hK
    obtain ⟨⟨old, he⟩, hz, hTI, h1, h2⟩ := st
    obtain ⟨xs, ys, hqx, hqy, hend⟩ := hg
    obtain ⟨its, rv, p, _⟩ := I.list hqx
    obtain ⟨its2, rv2, p2, _⟩ := I.list hqy
    have l1 := rv.length
    have hen : its.toArray[i]? = none := by simp; omega
    exact pyNext_end (I.ok.hd hc) D he hz hTI h1 h2 p.isList p2.isList hen fun h' hk => ⟨rfl, I.turnedL (t' := s.toks) (ch := [e, z, TI, TO, i1, i2]) (fun c o hb q => hk c o (fun z' => hb (by simp [z'])) (fun z' => hb (by simp [z'])) (fun z' => hb (by simp [z'])) q) hf⟩
  self := fun A i s Q E st h => by
    obtain ⟨⟨old, he⟩, _⟩ := st
    exact wpAny_pyIter_enum he h
def iEz (K : PySem.W.Frag) (ta : TA) : TI := fun σ H R => ta σ H fun vs H1 => ∃ a b xs ys, vs = [.ref a, .ref b] ∧ SqL K H1 a xs ∧ SqL K H1 b ys ∧ R (Itez K a b) H1
theorem pi_ez {X : Cx} {e e2 : Expr} {ta : TA} {p q pos qos tpos : Pos} {elts : List Expr} {kk : Nat} (hg : Gl X "zip") (hm : X.mg "zip" = none) (hg2 : Gl X "enumerate") (hm2 : X.mg "enumerate" = none) (ha : PA X [e, e2] ta)
    (hs : starEach [e, e2] X.env = (false, eval e X.env) :: starEach [e2] X.env := by rfl) (hpl : (backTo qos (starEach [e2] X.env)).any (·.1) = false := by rfl)
    (hs2 : starEach [.Call (.Name "zip" q) [e, e2] [] qos] X.env = [(false, eval (.Call (.Name "zip" q) [e, e2] [] qos) X.env)] := by rfl) :
    PI X (.Tuple elts kk tpos) (.Call (.Name "enumerate" p) [.Call (.Name "zip" q) [e, e2] [] qos] [] pos) (iEz X.K ta) := by
  refine ⟨fun pins s σ H R I h => ?_⟩
  refine PyProof.Rows.Call_ (ld_blt I hg2 hm2 (show bootBuiltins "enumerate" = some (.type "enumerate") by decide +kernel) (PyProof.Rows.callWith_type1 ?_ hs2 rfl))
  rw [hs2]
  refine Calls.spliced_cons (PyProof.Rows.Call_ (ld_blt I hg hm PyProof.Rows.boot_zip (PyProof.Rows.callWith_type1 (thn (ha.run qos pins s σ H _ I h) fun us s1 ⟨vs, H1, I1, r1, q1⟩ => ?_) hs hpl)))
  obtain ⟨a, b, xs, ys, ex, hqx, hqy, q⟩ := q1
  subst ex
  cases r1 with
  | cons r rr =>
    cases rr with
    | cons r' rr =>
      cases rr
      cases r
      cases r'
      obtain ⟨its, rv, p1, _⟩ := I1.list hqx
      obtain ⟨its2, rv2, p2, _⟩ := I1.list hqy
      have la : a < s1.heap.objs.size := p1.lt
      have lb : b < s1.heap.objs.size := p2.lt
      refine call_zip_2 p1.isList p2.isList fun h' hz hTI hTO j1 j2 hsz hk => Calls.spliced_nil ?_
      -- enumerate(z)
      have hsz' : h'.objs.size = s1.heap.objs.size + 5 := hsz
      show wpAny (model X.prog X.w) X.A (PySem.call (.type "enumerate") [.ref (s1.heap.objs.size + 4)]) _ _ { s1 with heap := h' }
      refine callType_new F.called_enumerate (by decide) (F.typeCall_enumerate_1 _) (F.newCall_enumerate_1 _) (fun obj => F.args_object_init_2 obj _) F.entry_enumerate_new (meets_new _ .none _ _) ⟨hz, ?_⟩
      have he : IsEnum (h'.push { cls := .type "enumerate", data := .fields #[.none, .bool false, .ref (s1.heap.objs.size + 4), rawInt 0, .none, .none] }) h'.objs.size (s1.heap.objs.size + 4) 0 .none := Heap.get?_push_size _ rfl
      refine ⟨⟨_, he, rfl⟩, wpAny_pyIter_enum he ?_⟩
      generalize hh2 : h'.push { cls := .type "enumerate", data := .fields #[.none, .bool false, .ref (s1.heap.objs.size + 4), rawInt 0, .none, .none] } = h2 at he
      have kp2 : ∀ c o, h'.get? c = some o → h2.get? c = some o := fun c o q => by rw [← hh2]; exact Heap.get?_push_of_some _ q
      have I2 : Inv X pins σ H1 { s1 with heap := h2 } := I1.kept (t' := s1.toks) fun c o q => kp2 c o (hk c o q)
      have W : Away h'.objs.size (s1.heap.objs.size + 4) (s1.heap.objs.size + 2) (s1.heap.objs.size + 3) s1.heap.objs.size (s1.heap.objs.size + 1) := ⟨by
        rw [hsz']
        exact ⟨Nat.ne_of_gt (Nat.add_lt_add_left (by decide) _), Nat.ne_of_gt (Nat.add_lt_add_left (by decide) _), Nat.ne_of_gt (Nat.add_lt_add_left (by decide) _), Nat.ne_of_gt (Nat.lt_add_of_pos_right (by decide)), Nat.ne_of_gt (Nat.add_lt_add_left (by decide) _)⟩⟩
      refine ⟨h'.objs.size, [h'.objs.size, s1.heap.objs.size + 4, s1.heap.objs.size + 2, s1.heap.objs.size + 3, s1.heap.objs.size, s1.heap.objs.size + 1], _, _, H1, rfl, I2, turn_ez (PySem.W.ktu_apart s1.heap.objs.size a b la lb) W,
        ⟨⟨.none, he⟩, ⟨.none, false, kp2 _ _ hz, .inl rfl, _, _, kp2 _ _ hTO⟩, kp2 _ _ hTI, j1.at fun o q => kp2 _ o q, j2.at fun o q => kp2 _ o q⟩, fun c hcm => ?_, q⟩
      have q' : c = h'.objs.size ∨ c = s1.heap.objs.size + 4 ∨ c = s1.heap.objs.size + 2 ∨ c = s1.heap.objs.size + 3 ∨ c = s1.heap.objs.size ∨ c = s1.heap.objs.size + 1 := by simpa using hcm
      have hle : s1.heap.objs.size ≤ c := by
        rcases q' with z | z | z | z | z | z
        · rw [z, hsz']; exact Nat.le_add_right _ _
        · rw [z]; exact Nat.le_add_right _ _
        · rw [z]; exact Nat.le_add_right _ _
        · rw [z]; exact Nat.le_add_right _ _
        · rw [z]; exact Nat.le_refl _
        · rw [z]; exact Nat.le_add_right _ _
      exact I1.fpOk hle (I1.hok.fresh hle)
end EZ
namespace DL
open PySem L2 EZ
/-- counted pairs from i on -/
def ezD : Nat → List D → List D → List D
  | i, x :: xs, y :: ys => .tup [.int (i : Int), .tup [x, y]] :: ezD (i + 1) xs ys
  | _, _, _ => []
theorem ezD_len : ∀ (i : Nat) (xs ys : List D), (ezD i xs ys).length = min xs.length ys.length
  | _, [], _ => by unfold ezD; simp
  | _, _ :: _, [] => by unfold ezD; simp
  | i, x :: xs, y :: ys => by unfold ezD; simp only [List.length_cons, ezD_len (i + 1) xs ys]; omega
theorem ezD_get : ∀ {xs ys : List D} {k i : Nat} {d : D}, (ezD k xs ys)[i]? = some d → ∃ x y, xs[i]? = some x ∧ ys[i]? = some y ∧ d = .tup [.int ((k + i : Nat) : Int), .tup [x, y]]
  | [], _, _, _, _, h => by unfold ezD at h; simp at h
  | _ :: _, [], _, _, _, h => by unfold ezD at h; simp at h
  | x :: xs, y :: ys, k, 0, _, h => by unfold ezD at h; simp at h; exact ⟨x, y, rfl, rfl, by simpa using h.symm⟩
  | x :: xs, y :: ys, k, i + 1, _, h => by
    unfold ezD at h
    obtain ⟨a, b, h1, h2, h3⟩ := ezD_get (xs := xs) (ys := ys) (k := k + 1) (i := i) (by simpa using h)
    exact ⟨a, b, by simpa using h1, by simpa using h2, by rw [h3, show k + 1 + i = k + (i + 1) by omega]⟩
theorem yields_ez {K : PySem.W.Frag} {B : Hp} {a b : Addr} {vs ws : List V} {xs ys : List D} (h : B a = some (.lst vs)) (r : RepL B vs xs) (h' : B b = some (.lst ws)) (r' : RepL B ws ys) (hl : xs.length = ys.length) : Yields (Itez K a b) B (ezD 0 xs ys) := fun i H e => by
  refine ⟨fun d hd => ?_, fun hle => ⟨vs, ws, .of (e _ _ h), .of (e _ _ h'), by rw [ezD_len] at hle; rw [r.length]; omega⟩⟩
  obtain ⟨x, y, hx, hy, rfl⟩ := ezD_get hd
  obtain ⟨v, hv, rv⟩ := r.getD hx
  obtain ⟨w, hw, rw'⟩ := r'.getD hy
  refine ⟨⟨vs, ws, v, w, .of (e _ _ h), .of (e _ _ h'), hv, hw⟩, fun z H' q => ?_⟩
  obtain ⟨T, T2, x1, y1, rfl, hT, hT2, hne, rfl, q1, q2⟩ := q
  have e1 := q1 vs (.of (e _ _ h))
  have e2 := q2 ws (.of (e _ _ h'))
  rw [hv] at e1; cases e1
  rw [hw] at e2; cases e2
  have hT2' : upd H T (.tup [v, w]) T2 = none := by rw [upd_ne hne.symm]; exact hT2
  refine ⟨(Ex.new hT).trans (Ex.new hT2'), fun R' hb hn => .tup (vs := [.int (i : Nat), .ref T]) (hn _ _ ?_) (.cons ?_ (.cons (.tup (vs := [v, w]) (hn _ _ ?_) (.cons (rv.mono hb) (.cons (rw'.mono hb) .nil))) .nil))⟩
  · exact reg_has (by simp) hT2 upd_same trivial
  · have : ((0 + i : Nat) : Int) = (i : Int) := by omega
    rw [this]; exact .int _
  · exact reg_has (by simp) hT (by rw [upd_ne hne]; exact upd_same) trivial
section
variable {X : Cx} {a b : Expr} {pos : Pos} {Z : Fr} {Γ : List SV} {ma mb : Nat} {xs ys : List D}
theorem i_ez {p q qos tpos : Pos} {elts : List Expr} {kk : Nat} (hm : X.mg "zip" = none) (hm2 : X.mg "enumerate" = none) (ha : PE X a (tD Z Γ ma (.lst xs))) (hb : PE X b (tD Z Γ mb (.lst ys))) (hl : xs.length = ys.length) (h1 : ma ≤ 3 := by decide) (h2 : mb ≤ 3 := by decide) (hg : Gl X "zip" := by rfl) (hg2 : Gl X "enumerate" := by rfl)
    (hs : starEach [a, b] X.env = (false, eval a X.env) :: starEach [b] X.env := by rfl) (hs2 : starEach [b] X.env = (false, eval b X.env) :: starEach [] X.env := by rfl) (hpl : (backTo qos (starEach [b] X.env)).any (·.1) = false := by rfl)
    (hs3 : starEach [.Call (.Name "zip" q) [a, b] [] qos] X.env = [(false, eval (.Call (.Name "zip" q) [a, b] [] qos) X.env)] := by rfl) :
    PI X (.Tuple elts kk tpos) (.Call (.Name "enumerate" p) [.Call (.Name "zip" q) [a, b] [] qos] [] pos) (tI Z Γ (min ma mb) (ezD 0 xs ys)) :=
  pi_imp (pi_ez hg hm hg2 hm2 (a_cons ha (a_cons hb a_nil hs2) hs) hs hpl hs3) fun σ H R q => ⟨q.1, fun vs H1 e1 r => by
    rw [show min ma (min mb 3) = min ma mb by omega] at r
    cases r with
    | cons r1 r2 =>
      cases r2 with
      | cons r2 r3 =>
        cases r3
        cases r1 with
        | lst h1 k1 =>
          cases r2 with
          | lst h2 k2 => exact ⟨_, _, _, _, rfl, .of (rg_le _ _ h1), .of (rg_le _ _ h2), q.2 _ H1 e1 (yields_ez h1 k1 h2 k2 hl)⟩⟩
end
end DL

set_option Elab.async false
set_option linter.all false
set_option maxRecDepth 100000
/-! DL8: in a list of numbers, own exceptions raised. -/
namespace DL
open PySem L2
section
variable {X : Cx} {e a b : Expr} {pos : Pos} {Z : Fr} {Γ : List SV} {m m' ma mb : Nat} {d da db : D} {ds es xs ys : List D}
theorem inV_ints {i : Int} : ∀ {ns : List Int}, inV (.int i) (ns.map V.int) = decide (i ∈ ns)
  | [] => rfl
  | n :: ns => by
    have ih := inV_ints (i := i) (ns := ns)
    unfold inV at ih ⊢
    rw [List.map_cons, List.any_cons, ih]
    by_cases h : n = i
    · subst h
      have : eqV (V.int n) (V.int n) = true := by simp [eqV]
      rw [this, Bool.true_or]
      exact (decide_eq_true List.mem_cons_self).symm
    · have : eqV (V.int n) (V.int i) = false := by simp [eqV, h]
      rw [this, Bool.false_or]
      exact decide_eq_decide.mpr ⟨List.mem_cons_of_mem _, fun z => (List.mem_cons.mp z).resolve_left fun q => h q.symm⟩
theorem flat_ints (ns : List Int) : (ns.map V.int).all flatV = true := by
  rw [List.all_map]; exact List.all_eq_true.mpr fun _ _ => rfl
theorem t_in {i : Int} {ns : List Int} (ha : PE X a (tD Z Γ ma (.int i))) (hb : PE X b (tD Z Γ mb (dI ns))) (hm : behindInMarks .In b = false := by rfl) : PT X (.Compare a [.In] [b] pos) (tDT Z Γ (decide (i ∈ ns))) :=
  t_cmpS op_in_seq (fun H x y Q r1 r2 q => by
    cases r1
    cases r2 with
    | lst h1 h2 =>
      rw [RepL.ints_inv h2] at h1
      exact ⟨_, _, rfl, .inl (.of h1), rfl, flat_ints ns, by rw [inV_ints]; exact q⟩) ha hb hm
end
/-! ### which built-in class -/
def isIntD : D → Bool
  | .int _ => true
  | .bl _ => true
  | _ => false
def isBlD : D → Bool
  | .bl _ => true
  | _ => false
def isLstD : D → Bool
  | .lst _ => true
  | _ => false
def isTupD : D → Bool
  | .tup _ => true
  | _ => false
def isStrD : D → Bool
  | .str _ => true
  | _ => false
section
variable {d : D} {t : String}
theorem kb_int (h : tyD d = some t) : kitB t "int" = some (isIntD d) := by
  cases d <;> cases h
  · exact (by decide +kernel : kitB "NoneType" "int" = some false)
  · exact (by decide +kernel : kitB "bool" "int" = some true)
  · exact (by decide +kernel : kitB "int" "int" = some true)
  · exact (by decide +kernel : kitB "str" "int" = some false)
  · exact (by decide +kernel : kitB "list" "int" = some false)
  · exact (by decide +kernel : kitB "tuple" "int" = some false)
  · exact (by decide +kernel : kitB "dict" "int" = some false)
theorem kb_bool (h : tyD d = some t) : kitB t "bool" = some (isBlD d) := by
  cases d <;> cases h
  · exact (by decide +kernel : kitB "NoneType" "bool" = some false)
  · exact (by decide +kernel : kitB "bool" "bool" = some true)
  · exact (by decide +kernel : kitB "int" "bool" = some false)
  · exact (by decide +kernel : kitB "str" "bool" = some false)
  · exact (by decide +kernel : kitB "list" "bool" = some false)
  · exact (by decide +kernel : kitB "tuple" "bool" = some false)
  · exact (by decide +kernel : kitB "dict" "bool" = some false)
theorem kb_list (h : tyD d = some t) : kitB t "list" = some (isLstD d) := by
  cases d <;> cases h
  · exact (by decide +kernel : kitB "NoneType" "list" = some false)
  · exact (by decide +kernel : kitB "bool" "list" = some false)
  · exact (by decide +kernel : kitB "int" "list" = some false)
  · exact (by decide +kernel : kitB "str" "list" = some false)
  · exact (by decide +kernel : kitB "list" "list" = some true)
  · exact (by decide +kernel : kitB "tuple" "list" = some false)
  · exact (by decide +kernel : kitB "dict" "list" = some false)
theorem kb_tuple (h : tyD d = some t) : kitB t "tuple" = some (isTupD d) := by
  cases d <;> cases h
  · exact (by decide +kernel : kitB "NoneType" "tuple" = some false)
  · exact (by decide +kernel : kitB "bool" "tuple" = some false)
  · exact (by decide +kernel : kitB "int" "tuple" = some false)
  · exact (by decide +kernel : kitB "str" "tuple" = some false)
  · exact (by decide +kernel : kitB "list" "tuple" = some false)
  · exact (by decide +kernel : kitB "tuple" "tuple" = some true)
  · exact (by decide +kernel : kitB "dict" "tuple" = some false)
theorem kb_str (h : tyD d = some t) : kitB t "str" = some (isStrD d) := by
  cases d <;> cases h
  · exact (by decide +kernel : kitB "NoneType" "str" = some false)
  · exact (by decide +kernel : kitB "bool" "str" = some false)
  · exact (by decide +kernel : kitB "int" "str" = some false)
  · exact (by decide +kernel : kitB "str" "str" = some true)
  · exact (by decide +kernel : kitB "list" "str" = some false)
  · exact (by decide +kernel : kitB "tuple" "str" = some false)
  · exact (by decide +kernel : kitB "dict" "str" = some false)
end
/-- an own exception class over ValueError -/
structure ExcX (K : PySem.W.Frag) (mg : Str → Option Value) (x : Str) where
  C : Addr
  g : mg x = some (.ref C)
  x : PySem.W.excIn K C [.type "ValueError", .type "Exception", .type "BaseException", .type "object"] "ValueError.__new__" = true
  k : PySem.W.keepIn K (.ref C) = true
  b : PySem.W.subIn K (.ref C) (.type "BaseException") = some true
  t : PySem.W.typeIn K (.ref C) = some (.type "type")
section
variable {X : Cx} {pos p2 p pos' : Pos} {rest : List Stmt} {E : Ends} {σ : L2.St} {H : Hp} {x m : Str} {j : Nat}
/-- raise X('m') -/
theorem w_raise {W : WX} (e : ExcX X.K X.mg x) (tk : Takes X W) (k : W (.ref e.C) none σ H) (hc : X.calm = true := by rfl) (hg : Gl X x := by rfl) (hdb : (x == ("__debug__" : Str)) = false := by decide) :
    wp X (.Raise (some (.Call (.Name x p) [.Constant (.str m) j p2] [] pos)) none pos' :: rest) E σ H :=
  wp_cons (ps_raise hc tk (pmk_own PySem.F.excBase_ValueError e.x e.g e.k (raises_own e.b e.t) hg hdb)) k
end
end DL

set_option Elab.async false
set_option linter.all false
set_option maxRecDepth 100000
/-! DL9: calls of the text's defs, those that may raise; sizes of data. -/
namespace DL
open PySem L2
section
variable {X : Cx} {e a b : Expr} {pos : Pos} {Z : Fr} {Γ : List SV} {m m' ma mb : Nat} {d da db : D} {ds es xs ys : List D}
theorem d_fn {CX : CXT} {j k : Nat} {sp : Sp} {E : XK} {x : Str} {st : Stmt} {ps : List Str} {p : Pos} {es : List Expr} (D : Dfn X.K X.mg x st ps) (F : FnOk X.prog X.w X.K X.mg X.base CX k D.f D.fd ps sp) (hr : Room j X.A) (hx : Passes CX X E)
    (hG : Gives sp ds d) (ha : PA X (e :: es) (tDA Z Γ m ds)) (hk : k ≤ j := by decide) (hg : Gl X x := by rfl) (hdb : (x == ("__debug__" : Str)) = false := by decide) (he : starEach (e :: es) X.env = (false, eval e X.env) :: starEach es X.env := by rfl) (hpl : (backTo pos (starEach es X.env)).any (·.1) = false := by rfl) :
    PE X (.Call (.Name x p) (e :: es) [] pos) (tD Z Γ 3 d) :=
  d_call F (hr.mono hk) D.g D.F.kp D.b hx hG ha hg hdb he hpl
/-- a datum, or an exception of the class at C -/
def tX (Z : Fr) (Γ : List SV) (E : XK) (res : Addr ⊕ D) : TE := fun σ H Q => Holds Z σ H Γ ∧ match res with
  | .inr d => ∀ v H', Ex H H' → Rep (rg 3 (Z.O σ Γ) Z.h0 H H') v d → Q v H'
  | .inl C => ∀ H', Ex H H' → E (.ref C) none H'
def Both (sp : Sp) (ds : List D) (res : Addr ⊕ D) : Prop := ∀ vs H Q (E : XK), RepL H vs ds → (match res with
  | .inr d => ∀ v H', Ex H H' → Rep (reg [] H H') v d → Q v H'
  | .inl C => ∀ H', Ex H H' → E (.ref C) none H') → sp vs H Q E
theorem PurX.both {α : Type} {arg : α → List D} {pre : α → Prop} {res : α → Addr ⊕ D} (a : α) (h : pre a) : Both (PurX arg pre res) (arg a) (res a) := fun vs H Q E r q => ⟨a, r, h, q⟩
theorem x_fn {j k : Nat} {sp : Sp} {E : XK} {x : Str} {st : Stmt} {ps : List Str} {p : Pos} {es : List Expr} {res : Addr ⊕ D} (D : Dfn X.K X.mg x st ps) (F : FnOk X.prog X.w X.K X.mg X.base (L2.CX X.prog X.w) k D.f D.fd ps sp) (hr : Room j X.A) (hx : Passes (L2.CX X.prog X.w) X E)
    (hG : Both sp ds res) (ha : PA X (e :: es) (tDA Z Γ m ds)) (hk : k ≤ j := by decide) (hg : Gl X x := by rfl) (hdb : (x == ("__debug__" : Str)) = false := by decide) (he : starEach (e :: es) X.env = (false, eval e X.env) :: starEach es X.env := by rfl) (hpl : (backTo pos (starEach es X.env)).any (·.1) = false := by rfl) :
    PE X (.Call (.Name x p) (e :: es) [] pos) (tX Z Γ E res) :=
  pe_imp (pe_call F (hr.mono hk) hg D.g D.F.kp D.b .nil hx ha hdb he hpl) fun σ H Q h => ⟨h.1, fun vs H1 e1 r1 => hG _ H1 Q E (by rw [List.append_nil]; exact r1.mono rg_le) (by
    obtain ⟨i, q⟩ := h
    cases res with
    | inr d => exact fun v H2 e2 k => q v H2 (e1.trans e2) (k.mono (rg_fresh (i.grow e1).dom (i.grow e1).h0x e1))
    | inl C => exact fun H2 e2 => q H2 (e1.trans e2))⟩
variable {rest : List Stmt} {E : Ends} {σ : L2.St} {H : Hp} {W : XK}
theorem w_exprX {res : Addr ⊕ D} (he : PE X e (tX Z Γ W res)) (h : Holds Z σ H Γ) (k : ∀ d, res = .inr d → ∀ H', Ex H H' → Holds Z σ H' Γ → wp X rest E σ H') (kx : ∀ C, res = .inl C → ∀ H', Ex H H' → W (.ref C) none H') (hs : swapsWith e none pos.line X.env = pure false := by rfl) : wp X (.Expr e pos :: rest) E σ H :=
  wp_cons (ps_expr he hs) ⟨h, by
    cases res with
    | inr d => exact fun v H' ex r => k d rfl H' ex (h.grow ex)
    | inl C => exact fun H' ex => kx C rfl H' ex⟩
theorem own_pass {E1 : XK} (tk : Takes X (fun cls d _ H => E1 cls d H)) : Passes (L2.CX X.prog X.w) X E1 := passes_call tk fun _ _ _ _ h => h
end
/-- data without objects of classes, of bounded length -/
def lenOk (n : Nat) : Bool := Nat.ble n 1000000
theorem lenOk_le {n : Nat} (h : lenOk n = true) : n ≤ 1000000 := Nat.le_of_ble_eq_true h
theorem lenOk_of {n : Nat} (h : n ≤ 1000000) : lenOk n = true := Nat.ble_eq_true_of_le h
def knd (d : D) : Bool := (tyD d).isSome
theorem knd_ty {d : D} (h : knd d = true) : ∃ t, tyD d = some t := Option.isSome_iff_exists.mp h
def knd1 : D → Bool
  | .lst xs => lenOk xs.length && xs.all knd
  | .tup xs => lenOk xs.length && xs.all knd
  | d => knd d
def knd2 : D → Bool
  | .lst xs => lenOk xs.length && xs.all knd1
  | d => knd1 d
theorem knd1_knd {d : D} (h : knd1 d = true) : knd d = true := by
  cases d <;> first | rfl | exact h
theorem knd2_knd {d : D} (h : knd2 d = true) : knd d = true := by
  cases d <;> first | rfl | exact h
theorem all_at {f : D → Bool} {xs : List D} (h : xs.all f = true) {i : Nat} {y : D} (e : xs[i]? = some y) : f y = true := List.all_eq_true.mp h y (List.mem_of_getElem? e)
end DL
namespace DL
open PySem L2
section
variable {X : Cx} {pos : Pos} {rest : List Stmt} {E : Ends} {σ : L2.St} {H : Hp}
/-- the block ends: what follows the statement -/
theorem w_end (k : wp X rest E σ H) {bk ct : L2.St → Hp → Prop} {rt : VK} : wp X [] { nx := fun σ' H' => wp X rest E σ' H', bk := bk, ct := ct, rt := rt } σ H := wp_nil k
theorem p_nm (i : Nat) {x : Str} (hN : X.N.Nodup) (hi : X.N[i]? = some x := by rfl) (hx : Loc X.env.scope x := by first | exact .inl rfl | exact .inr rfl) (hf : X.fn x = true ∨ X.env.scope.names.lookup x = some .local := by first | exact .inl rfl | exact .inr rfl) : PG X (.Name x pos) (gP X.K (.nm i)) := pg_name hN hi hx hf
theorem q_nil : PGs X [] (gPs X.K []) := pgs_nil
theorem q_cons {e : Expr} {es : List Expr} {p : Pat} {ps : List Pat} (h1 : PG X e (gP X.K p)) (h2 : PGs X es (gPs X.K ps)) (hs : (assignEach (e :: es) X.env).map (·.2) = assign e X.env :: (assignEach es X.env).map (·.2) := by rfl) : PGs X (e :: es) (gPs X.K (p :: ps)) := pgs_cons h1 h2 hs
theorem p_tp {es : List Expr} {k : Nat} {ps : List Pat} (h : PGs X es (gPs X.K ps)) (hc : X.calm = true := by rfl) (hn : (assignEach es X.env).length = ps.length := by rfl) (hst : (assignEach es X.env).findIdx? (·.1) = none := by rfl) : PG X (.Tuple es k pos) (gP X.K (.tp ps)) := pg_tup hc h hn hst
end
end DL

set_option Elab.async false
set_option linter.all false
set_option maxRecDepth 100000
/-! DL10: data compared: what may be, how it ends; tests over all of a list. -/
namespace DL
open PySem L2
/-- data that may be compared, of a depth -/
structure Cq (n : Nat) (d : D) : Prop where
  p : pln d = true
  l : (toPy d).canLay0 = true
  z : (toPy d).depth ≤ n
theorem Cq.le {n m : Nat} {d : D} (h : Cq n d) (k : n ≤ m) : Cq m d := ⟨h.p, h.l, Nat.le_trans h.z k⟩
theorem cq_int (i : Int) {n : Nat} : Cq n (.int i) := ⟨rfl, rfl, Nat.zero_le _⟩
theorem cq_bl (i : Bool) {n : Nat} : Cq n (.bl i) := ⟨rfl, rfl, Nat.zero_le _⟩
theorem cq_non {n : Nat} : Cq n .non := ⟨rfl, rfl, Nat.zero_le _⟩
theorem cq_all {n : Nat} : ∀ {xs : List D}, (∀ x ∈ xs, Cq n x) → plnL xs = true ∧ PyData.canLayAll0 (toPyL xs) = true ∧ PyData.depthAll (toPyL xs) ≤ n
  | [], _ => ⟨rfl, rfl, Nat.zero_le _⟩
  | x :: xs, h => by
    obtain ⟨a, b, c⟩ := cq_all (xs := xs) fun y hy => h y (List.mem_cons_of_mem _ hy)
    have q := h x List.mem_cons_self
    refine ⟨?_, ?_, ?_⟩
    · show (_ && _) = true
      rw [q.p, a]; rfl
    · unfold toPyL PyData.canLayAll0
      rw [q.l, b]; rfl
    · unfold toPyL PyData.depthAll
      have := q.z
      omega
theorem cq_lst {n : Nat} {xs : List D} (h : ∀ x ∈ xs, Cq n x) : Cq (n + 1) (.lst xs) := by
  obtain ⟨a, b, c⟩ := cq_all h
  refine ⟨a, ?_, ?_⟩
  · unfold toPy PyData.canLay0; exact b
  · unfold toPy PyData.depth; omega
theorem cq_tup {n : Nat} {xs : List D} (h : ∀ x ∈ xs, Cq n x) : Cq (n + 1) (.tup xs) := by
  obtain ⟨a, b, c⟩ := cq_all h
  refine ⟨a, ?_, ?_⟩
  · unfold toPy PyData.canLay0; exact b
  · unfold toPy PyData.depth; omega
theorem cq_dI (ns : List Int) {n : Nat} : Cq (n + 1) (dI ns) := cq_lst fun x hx => by
  obtain ⟨i, _, rfl⟩ := List.mem_map.mp hx; exact cq_int i
theorem Cq.eqOk {n : Nat} {d : D} (h : Cq n d) (k : n ≤ 64 := by decide) : eqOk d = true := by
  unfold DL.eqOk SeqAt.shaped
  rw [h.p, h.l, decide_eq_true (Nat.le_trans h.z k)]; rfl
mutual
theorem deq_refl : ∀ {d : D}, pln d = true → deq d d = true
  | .non, _ => rfl
  | .bl b, _ => by cases b <;> rfl
  | .int i, _ => by unfold deq toPy PyData.eqv; exact beq_self_eq_true i
  | .str x, _ => by unfold deq toPy PyData.eqv; exact beq_self_eq_true x
  | .lst xs, h => by unfold deq toPy PyData.eqv; exact deqL_refl h
  | .tup xs, h => by unfold deq toPy PyData.eqv; exact deqL_refl h
  | .emp, h => by cases h
  | .obj _ _ _, h => by cases h
theorem deqL_refl : ∀ {ds : List D}, plnL ds = true → PyData.eqvAll (toPyL ds) (toPyL ds) = true
  | [], _ => rfl
  | d :: ds, h => by
    obtain ⟨h1, h2⟩ := Bool.and_eq_true_iff.mp (show (_ && _) = true from h)
    unfold toPyL PyData.eqvAll
    rw [deqL_refl h2, Bool.and_true]
    exact deq_refl h1
end
theorem Cq.refl {n : Nat} {d : D} (h : Cq n d) : deq d d = true := deq_refl h.p
mutual
/-- no truth values within: told apart by what they are -/
def nob : D → Bool
  | .non => true
  | .int _ => true
  | .str _ => true
  | .lst xs => nobL xs
  | .tup xs => nobL xs
  | _ => false
def nobL : List D → Bool
  | [] => true
  | x :: xs => nob x && nobL xs
end
mutual
theorem deq_inj : ∀ {d e : D}, nob d = true → nob e = true → deq d e = true → d = e
  | .non, e, _, h, q => by
    cases e <;> first | rfl | (cases h; done) | (exact absurd q (by simp [deq, toPy, PyData.eqv]))
  | .int i, e, _, h, q => by
    cases e <;> first | cases h; done | cases q; done | skip
    unfold deq toPy PyData.eqv at q
    rw [eq_of_beq q]
  | .str i, e, _, h, q => by
    cases e <;> first | cases h; done | cases q; done | skip
    unfold deq toPy PyData.eqv at q
    rw [eq_of_beq q]
  | .lst xs, e, h', h, q => by
    cases e <;> first | cases h; done | cases q; done | skip
    unfold deq toPy PyData.eqv at q
    rw [deqL_inj h' h q]
  | .tup xs, e, h', h, q => by
    cases e <;> first | cases h; done | cases q; done | skip
    unfold deq toPy PyData.eqv at q
    rw [deqL_inj h' h q]
  | .bl _, _, h, _, _ => by cases h
  | .emp, _, h, _, _ => by cases h
  | .obj _ _ _, _, h, _, _ => by cases h
theorem deqL_inj : ∀ {ds es : List D}, nobL ds = true → nobL es = true → PyData.eqvAll (toPyL ds) (toPyL es) = true → ds = es
  | [], [], _, _, _ => rfl
  | [], _ :: _, _, _, q => by cases q
  | _ :: _, [], _, _, q => by cases q
  | d :: ds, e :: es, h, k, q => by
    obtain ⟨h1, h2⟩ := Bool.and_eq_true_iff.mp (show (_ && _) = true from h)
    obtain ⟨k1, k2⟩ := Bool.and_eq_true_iff.mp (show (_ && _) = true from k)
    unfold toPyL PyData.eqvAll at q
    obtain ⟨q1, q2⟩ := Bool.and_eq_true_iff.mp q
    rw [deq_inj h1 k1 q1, deqL_inj h2 k2 q2]
end
mutual
theorem nob_pln : ∀ {d : D}, nob d = true → pln d = true
  | .non, _ => rfl
  | .int _, _ => rfl
  | .str _, _ => rfl
  | .lst _, h => nobL_pln (by exact h)
  | .tup _, h => nobL_pln (by exact h)
  | .bl _, h => by cases h
  | .emp, h => by cases h
  | .obj _ _ _, h => by cases h
theorem nobL_pln : ∀ {ds : List D}, nobL ds = true → plnL ds = true
  | [], _ => rfl
  | d :: ds, h => by
    obtain ⟨h1, h2⟩ := Bool.and_eq_true_iff.mp (show (_ && _) = true from h)
    show (_ && _) = true
    rw [nob_pln h1, nobL_pln h2]; rfl
end
theorem nobL_ints : ∀ (ns : List Int), nobL (ns.map D.int) = true
  | [] => rfl
  | _ :: ns => nobL_ints ns
theorem nobL_map {α : Type} {f : α → D} : ∀ {xs : List α}, (∀ x ∈ xs, nob (f x) = true) → nobL (xs.map f) = true
  | [], _ => rfl
  | x :: xs, h => by
    show (_ && _) = true
    rw [h x List.mem_cons_self, nobL_map fun y hy => h y (List.mem_cons_of_mem _ hy)]; rfl
theorem deq_iff {d e : D} (h : nob d = true) (k : nob e = true) : deq d e = true ↔ d = e := ⟨deq_inj h k, fun q => by rw [← q]; exact deq_refl (nob_pln h)⟩
theorem dI_inj {a b : List Int} (h : dI a = dI b) : a = b := by
  have h' := D.lst.inj h
  exact (List.map_inj_right fun x y e => D.int.inj e).mp h'
theorem deq_ints (a b : List Int) : deq (dI a) (dI b) = decide (a = b) := by
  cases q : deq (dI a) (dI b) with
  | true => exact (decide_eq_true (dI_inj ((deq_iff (d := dI a) (e := dI b) (nobL_ints a) (nobL_ints b)).mp q))).symm
  | false =>
    refine (decide_eq_false fun e => ?_).symm
    rw [e] at q
    rw [(deq_iff (d := dI b) (e := dI b) (nobL_ints b) (nobL_ints b)).mpr rfl] at q; cases q
/-- a list against [] -/
theorem deq_nil (xs : List D) : deq (.lst xs) (.lst []) = decide (xs = []) := by
  cases xs with
  | nil => rfl
  | cons x xs => rfl
/-! ### all([.. for ..]) -/
section
variable {X : Cx} {Z : Fr} {Γ : List SV} {m : Nat} {tg iter elt : Expr} {scope : Scope} {pos pos' : Pos}
theorem lc_bl {α : Type} (ys : List α) (p : α → Bool) : D.lst ((ys.filter fun _ => true).map fun y => .bl (p y)) = .lst ((ys.map p).map D.bl) := by
  rw [List.filter_eq_self.mpr fun _ _ => rfl, List.map_map]; rfl
theorem all_id {α : Type} (ys : List α) (p : α → Bool) : (ys.map p).all id = ys.all p := by rw [List.all_map]; rfl
theorem any_id {α : Type} (ys : List α) (p : α → Bool) : (ys.map p).any id = ys.any p := by rw [List.any_map]; rfl
theorem lc_all {α : Type} (ys : List α) (f : α → D) : D.lst ((ys.filter fun _ => true).map f) = .lst (ys.map f) := by rw [List.filter_eq_self.mpr fun _ _ => rfl]
/-- all([elt for target in iter]) -/
theorem d_allc {α : Type} {enc : α → D} {ys : List α} {p : α → Bool} {me : Nat} (hm0 : X.mg "all" = none) (own : List (Str × Nat)) (pt : Pat) (hi : PI X tg iter (tI Z Γ m (ys.map enc))) (hg : ∀ (s : Shared) (H' : Hp) (C : Addr) (cl : List (Str × Addr)) (fp : List Addr), PG (blkX X scope s H' C cl fp) tg (gP X.K pt))
    (turn : LcTurn X scope Z Γ (own.map (·.2)) m pt enc [] elt me (fun _ => true) (fun y => .bl (p y)) ys) (hlen : ys.length ≤ 1000000) (hN : X.N.Nodup) (ok : BlkOk X.N X.env.scope scope own) (hc : X.calm = true := by rfl) (hm : 1 ≤ m := by decide) (hme : 1 ≤ me := by decide)
    (hz : noz Γ = true := by rfl) (hno : nown Γ (own.map (·.2)) = true := by rfl) (hsl : slotsIn pt (own.map (·.2)) = true := by rfl) (hs : ∀ x, foldedSetIterable iter X.env x = pure x := by intro _; rfl)
    (hg0 : Gl X "all" := by rfl) (he : starEach [.ListComp elt [⟨tg, iter, [], 0⟩] scope pos'] X.env = (false, eval (.ListComp elt [⟨tg, iter, [], 0⟩] scope pos') X.env) :: starEach [] X.env := by rfl) {p0 : Pos} (hpl : (backTo pos (starEach [] X.env)).any (·.1) = false := by rfl) :
    PE X (.Call (.Name "all" p0) [.ListComp elt [⟨tg, iter, [], 0⟩] scope pos'] [] pos) (tD Z Γ 3 (.bl (ys.all p))) := by
  rw [← all_id]
  exact d_all hm0 (d_eq (d_lc own pt hi hg turn hlen hN ok hc hm hme hz hno hsl hs) (lc_bl ys p)) hc hg0 he hpl
theorem d_anyc {α : Type} {enc : α → D} {ys : List α} {p : α → Bool} {me : Nat} (hm0 : X.mg "any" = none) (own : List (Str × Nat)) (pt : Pat) (hi : PI X tg iter (tI Z Γ m (ys.map enc))) (hg : ∀ (s : Shared) (H' : Hp) (C : Addr) (cl : List (Str × Addr)) (fp : List Addr), PG (blkX X scope s H' C cl fp) tg (gP X.K pt))
    (turn : LcTurn X scope Z Γ (own.map (·.2)) m pt enc [] elt me (fun _ => true) (fun y => .bl (p y)) ys) (hlen : ys.length ≤ 1000000) (hN : X.N.Nodup) (ok : BlkOk X.N X.env.scope scope own) (hc : X.calm = true := by rfl) (hm : 1 ≤ m := by decide) (hme : 1 ≤ me := by decide)
    (hz : noz Γ = true := by rfl) (hno : nown Γ (own.map (·.2)) = true := by rfl) (hsl : slotsIn pt (own.map (·.2)) = true := by rfl) (hs : ∀ x, foldedSetIterable iter X.env x = pure x := by intro _; rfl)
    (hg0 : Gl X "any" := by rfl) (he : starEach [.ListComp elt [⟨tg, iter, [], 0⟩] scope pos'] X.env = (false, eval (.ListComp elt [⟨tg, iter, [], 0⟩] scope pos') X.env) :: starEach [] X.env := by rfl) {p0 : Pos} (hpl : (backTo pos (starEach [] X.env)).any (·.1) = false := by rfl) :
    PE X (.Call (.Name "any" p0) [.ListComp elt [⟨tg, iter, [], 0⟩] scope pos'] [] pos) (tD Z Γ 3 (.bl (ys.any p))) := by
  rw [← any_id]
  exact d_any hm0 (d_eq (d_lc own pt hi hg turn hlen hN ok hc hm hme hz hno hsl hs) (lc_bl ys p)) hc hg0 he hpl
end
end DL

set_option Elab.async false
set_option linter.all false
set_option maxRecDepth 100000
/-! DL11: slices and places, plainly. -/
namespace DL
open PySem L2
theorem cut_from (xs : List D) (k : Nat) : cutD xs (some (k : Int)) none = xs.drop k := by
  unfold cutD
  rw [HT.sIx_nat, HT.sIx_none]
  by_cases h : k ≤ xs.length
  · rw [Nat.min_eq_left h, List.take_of_length_le (by rw [List.length_drop]; exact Nat.le_refl _)]
  · rw [Nat.min_eq_right (by omega), List.drop_of_length_le (Nat.le_refl _), List.drop_of_length_le (by omega), List.take_nil]
theorem cut_to (xs : List D) (k : Nat) : cutD xs none (some (k : Int)) = xs.take k := by
  unfold cutD
  rw [HT.sIx_nat, HT.sIx_none, Nat.sub_zero, List.drop_zero]
  by_cases h : k ≤ xs.length
  · rw [Nat.min_eq_left h]
  · rw [Nat.min_eq_right (by omega), List.take_of_length_le (Nat.le_refl _), List.take_of_length_le (by omega)]
theorem cut_last (xs : List D) : cutD xs none (some (-1)) = xs.dropLast := by
  unfold cutD
  rw [HT.sIx_none, Nat.sub_zero, List.drop_zero]
  have e : HT.sIx xs.length xs.length (some (-1)) = xs.length - 1 := by
    show (if (-1 : Int) < 0 then ((-1 : Int) + (xs.length : Int)).toNat else min (-1 : Int).toNat xs.length) = _
    rw [if_pos (by decide)]; omega
  rw [e, List.dropLast_eq_take]
theorem ix_nat {n i : Nat} (h : i < n) : ixN n (i : Int) = some i := by
  unfold ixN
  rw [if_pos (by omega), if_pos (by omega), Int.toNat_natCast]
theorem ix_last {n : Nat} (h : 0 < n) : ixN n (-1) = some (n - 1) := by
  unfold ixN
  rw [if_neg (by decide), if_pos (by omega)]
  congr 1; omega
theorem ix_get {xs : List D} {i : Nat} {d : D} (h : xs[i]? = some d) : (ixN xs.length (i : Int)).bind (fun j => xs[j]?) = some d := by
  rw [ix_nat (List.getElem?_eq_some_iff.mp h).1]; exact h
theorem map_int_get {ns : List Int} {i : Nat} (h : i < ns.length) : (ns.map D.int)[i]? = some (.int ns[i]) := by
  rw [List.getElem?_map, List.getElem?_eq_getElem h]; rfl
theorem zip_ints : ∀ (a b : List Int), zipD (a.map .int) (b.map .int) = (a.zip b).map fun p => .tup [.int p.1, .int p.2]
  | [], b => by unfold zipD; rfl
  | x :: a, [] => by unfold zipD; rfl
  | x :: a, y :: b => by
    show D.tup [.int x, .int y] :: zipD (a.map .int) (b.map .int) = _
    rw [zip_ints a b]; rfl
/-- numbered pairs -/
def ezI : Nat → List Int → List Int → List (Nat × Int × Int)
  | i, x :: xs, y :: ys => (i, x, y) :: ezI (i + 1) xs ys
  | _, _, _ => []
theorem ez_ints : ∀ (i : Nat) (a b : List Int), ezD i (a.map .int) (b.map .int) = (ezI i a b).map fun p => .tup [.int (p.1 : Int), .tup [.int p.2.1, .int p.2.2]]
  | _, [], b => by unfold ezD; rfl
  | _, x :: a, [] => by unfold ezD; rfl
  | i, x :: a, y :: b => by
    show D.tup [.int (i : Int), .tup [.int x, .int y]] :: ezD (i + 1) (a.map .int) (b.map .int) = _
    rw [ez_ints (i + 1) a b]; rfl
theorem ezI_len : ∀ (i : Nat) (a b : List Int), (ezI i a b).length ≤ a.length
  | _, [], _ => Nat.zero_le _
  | _, _ :: _, [] => Nat.zero_le _
  | i, x :: a, y :: b => Nat.succ_le_succ (ezI_len (i + 1) a b)
theorem map_str {α : Type} (xs : List α) (f : α → Int) : D.lst (xs.map fun x => .int (f x)) = dI (xs.map f) := by
  unfold dI; rw [List.map_map]; rfl
theorem filter_ints (ns : List Int) (p : Int → Bool) : D.lst ((ns.filter p).map D.int) = dI (ns.filter p) := rfl
theorem rep_one (k : Nat) (d : D) : (List.replicate k [d]).flatten = List.replicate k d := by
  induction k with
  | zero => rfl
  | succ k ih => rw [List.replicate_succ, List.flatten_cons, ih]; rfl
end DL

set_option Elab.async false
set_option linter.all false
set_option maxRecDepth 100000
/-! DL12: slots forgotten; for with a state; loops in blocks. -/
namespace DL
open PySem L2
section
variable {Z : Fr} {H H' : Hp} {σ : L2.St} {Γ : List SV}
/-- less is known of a slot -/
theorem Holds.drop (h : Holds Z σ H Γ) (i : Nat) : Holds Z σ H (Γ.set i .any) := by
  by_cases hi : i < σ.length
  · have q := h.forget i σ[i]
    rwa [List.set_getElem_self] at q
  · have e : Γ.set i .any = Γ := List.set_eq_of_length_le (by rw [← h.len]; omega)
    rw [e]; exact h
variable {X : Cx} {body rest : List Stmt} {pos : Pos} {E : Ends} {m : Nat} {xs : List D} {tg iter : Expr}
/-- for target in iter: body, with a state -/
theorem w_forS {S : Type} (p : Pat) (hi : PI X tg iter (tI Z Γ m xs)) (hm : 1 ≤ m) (hg : PG X tg (gP X.K p)) (hp : PassesOwn (model X.prog X.w) X.A X.env X.xe) (hc : X.calm = true) (h : Holds Z σ H Γ) (Γs : S → List SV) (I : Nat → S → Prop) (s0 : S) (hI : I 0 s0)
    (h0 : ∀ Z' H', Holds Z' σ H' Γ → Holds Z' σ H' (Γs s0))
    (turn : ∀ (i : Nat) (d : D) (s : S) (B : Hp) (σ' : L2.St) (H' : Hp), xs[i]? = some d → I i s → Holds { Z with fs := B :: Z.fs } σ' H' (Γs s) → ∃ Γ1, bindP (min m 2) p d (Γs s) = some Γ1 ∧ ∀ σ1 H1, Holds { Z with fs := B :: Z.fs } σ1 H1 Γ1 →
      wp X body { E with nx := fun σ2 H2 => ∃ s', I (i + 1) s' ∧ Holds { Z with fs := B :: Z.fs } σ2 H2 (Γs s'), ct := fun σ2 H2 => ∃ s', I (i + 1) s' ∧ Holds { Z with fs := B :: Z.fs } σ2 H2 (Γs s'), bk := fun σ' H' => wp X rest E σ' H' } σ1 H1)
    (after : ∀ s σ' H', I xs.length s → Holds Z σ' H' (Γs s) → wp X rest E σ' H') (hs : ∀ x, foldedSetIterable iter X.env x = pure x := by intro _; rfl) : wp X (.For tg iter body [] pos :: rest) E σ H := by
  refine wp_cons (ps_for hp hc hi hg (pss_wp body) hs) ⟨h, fun J H1 e1 y => ?_⟩
  generalize hB : rg m (Z.O σ Γ) Z.h0 H H1 = B at y
  have hfr : Holds { Z with fs := B :: Z.fs } σ H1 Γ := (h.grow e1).frame (by rw [← hB]; exact rg_le) (by rw [← hB]; exact rg_off hm) (by rw [← hB]; exact fun _ _ => rg_nt)
  refine ⟨fun i n σ' H' => n = xs.length - i ∧ i ≤ xs.length ∧ ∃ s, I i s ∧ Holds { Z with fs := B :: Z.fs } σ' H' (Γs s), ⟨xs.length, by simp, Nat.zero_le _, s0, hI, h0 _ _ hfr⟩, ?_⟩
  rintro i n σ' H' ⟨rfl, hi, s, is, p'⟩
  obtain ⟨y1, y2⟩ := y i H' p'.stays
  by_cases hlt : i < xs.length
  · obtain ⟨hgo, hy⟩ := y1 xs[i] (List.getElem?_eq_getElem hlt)
    refine .inr ⟨hgo, fun σ2 H2 => ∃ s', I (i + 1) s' ∧ Holds { Z with fs := B :: Z.fs } σ2 H2 (Γs s'), fun σ2 H2 q => ⟨xs.length - (i + 1), by omega, rfl, hlt, q⟩, fun x H2 q => ?_⟩
    obtain ⟨e2, r⟩ := hy x H2 q
    have p2 := p'.grow e2
    obtain ⟨Γ1, hb, tn⟩ := turn i xs[i] s B σ' H2 (List.getElem?_eq_getElem hlt) is p2
    have rr := r (rg (min m 2) (Z.O σ' (Γs s)) Z.h0 Z.h0 H2) (reg_later hm hB.symm h.h0x p2.stays (fun l hl => (p2.ext B (.inr List.mem_cons_self)).2 l hl)) (rg_fresh p'.dom p'.h0x p'.h0x)
    exact gP_ok p2 rr hb fun σ1 h1 _ => tn σ1 H2 h1
  · have e : i = xs.length := by omega
    subst e
    exact .inl ⟨y2 (Nat.le_refl _), after s σ' H' is p'.unframe⟩
end
theorem two_sz : 2 ≤ sizeLine := by decide
theorem one_sz : 1 ≤ sizeLine := by decide
theorem sz_of {n : Nat} (h : n ≤ 1000000) : n ≤ sizeLine := Nat.le_trans h (by decide)
end DL

set_option Elab.async false
set_option linter.all false
set_option maxRecDepth 100000
/-! DL13: sorted over nested data. -/
namespace DL
open PySem L2
abbrev leP (b c : V × D) : Bool := W.dataLe false (fun x : V × D => toPy x.2) b c
abbrev leD (b c : D) : Bool := W.dataLe false toPy b c
def sortD (ds : List D) : List D := ds.mergeSort leD
theorem sortD_perm (ds : List D) : (sortD ds).Perm ds := List.mergeSort_perm ds leD
theorem sortD_len (ds : List D) : (sortD ds).length = ds.length := (sortD_perm ds).length_eq
theorem sortD_mem {ds : List D} {d : D} : d ∈ sortD ds ↔ d ∈ ds := (sortD_perm ds).mem_iff
/-- what may be sorted: alike, all of them tuples or none -/
structure Srtb (ds : List D) : Prop where
  p : plnL ds = true
  al : W.AllAlike (ds.map toPy)
  so : W.Sortable (ds.map toPy)
  dp : ∀ d ∈ ds, (toPy d).depth ≤ 60
theorem pln_of_mem {ds : List D} (h : plnL ds = true) : ∀ d ∈ ds, pln d = true := by
  induction ds with
  | nil => intro d hd; cases hd
  | cons x xs ih =>
    obtain ⟨h1, h2⟩ := Bool.and_eq_true_iff.mp (show (_ && _) = true from h)
    intro d hd
    rcases List.mem_cons.mp hd with e | e
    · rw [e]; exact h1
    · exact ih h2 d e
/-- vs over ds, paired -/
theorem RepL.zip {R : Hp} : ∀ {vs : List V} {ds : List D}, RepL R vs ds → (vs.zip ds).map (·.1) = vs ∧ (vs.zip ds).map (·.2) = ds ∧ ∀ p ∈ vs.zip ds, Rep R p.1 p.2 ∧ p.2 ∈ ds
  | _, _, .nil => ⟨rfl, rfl, fun _ h => by cases h⟩
  | _, _, .cons (v := v) (d := d) h hs => by
    obtain ⟨a, b, c⟩ := RepL.zip hs
    refine ⟨by rw [List.zip_cons_cons, List.map_cons, a], by rw [List.zip_cons_cons, List.map_cons, b], fun p hp => ?_⟩
    rcases List.mem_cons.mp hp with e | e
    · rw [e]; exact ⟨h, List.mem_cons_self⟩
    · exact ⟨(c p e).1, List.mem_cons_of_mem _ (c p e).2⟩
theorem RepL.of_pairs {R : Hp} : ∀ {ps : List (V × D)}, (∀ p ∈ ps, Rep R p.1 p.2) → RepL R (ps.map (·.1)) (ps.map (·.2))
  | [], _ => .nil
  | p :: ps, h => .cons (h p List.mem_cons_self) (RepL.of_pairs fun q hq => h q (List.mem_cons_of_mem _ hq))
theorem each_vals : ∀ {ps : List (V × D)} {us : List Value}, Vals (ps.map (·.1)) us → W.EachIs (fun u (p : V × D) => RelV p.1 u) us ps
  | [], _, h => by cases h; exact .nil
  | p :: ps, _, h => by
    cases h with
    | cons h hs => exact .cons h (each_vals hs)
theorem vals_each : ∀ {ps : List (V × D)} {us : List Value}, W.EachIs (fun u (p : V × D) => RelV p.1 u) us ps → Vals (ps.map (·.1)) us
  | _, _, .nil => .nil
  | _, _, .cons h hs => .cons h (vals_each hs)
/-- sorted(xs) -/
def rSortedD (K : PySem.W.Frag) : List V → Hp → VK → Prop := fun vs H Q => ∃ (a : Addr) (bs : List (V × D)), vs = [V.ref a] ∧ SqL K H a (bs.map (·.1)) ∧ (∀ b ∈ bs, Dp K H b.1 (toPy b.2)) ∧ Srtb (bs.map (·.2)) ∧
  ∀ p, H p = none → Q (.ref p) (upd H p (.lst ((bs.mergeSort leP).map (·.1))))
section
variable {X : Cx} {e a b : Expr} {pos : Pos} {Z : Fr} {Γ : List SV} {m ma mb : Nat} {d da db : D} {ds es xs ys : List D}
theorem cr_sortedD (hu : X.A.units + 64 < cLine) : CallR X (.builtin "sorted") (rSortedD X.K) := by
  intro pins s σ H vs us Q I r h
  obtain ⟨a, bs, rfl, hs, hd, sb, q⟩ := h
  obtain ⟨its, rv, hl, hz⟩ := I.list hs
  obtain ⟨u, rfl, ru⟩ := vals1 r
  obtain rfl : u = Value.ref a := ru
  have em : (bs.map (·.2)).map toPy = bs.map fun p => toPy p.2 := by rw [List.map_map]; rfl
  have er : W.EachIs (fun u (p : V × D) => ∃ as, Reads s.heap u (toPy p.2) as) its bs := (W.each_mem (each_vals rv)).mono fun v b ⟨hr, hb⟩ => Dp.reads I _ _ _ (hd b hb) hr
  refine W.sorted_data (enc := fun p : V × D => toPy p.2) (R := fun u p => RelV p.1 u) hl.isList (each_vals rv) er (by rw [← em]; exact sb.al) (by rw [← em]; exact sb.so) (by rw [← List.length_map (f := fun p : V × D => p.1)]; exact hz)
    (fun b hb => ?_) fun out hlo eo => ?_
  · have := sb.dp b.2 (List.mem_map.mpr ⟨b, hb, rfl⟩)
    omega
  · obtain ⟨n, hn⟩ := PyProof.Rows.sortedAll_at s.heap its (List.toArray out)
    refine ⟨.ref (s.heap.objs.size + 1), upd H (s.heap.objs.size + 1) (.lst ((bs.mergeSort leP).map (·.1))), I.laid (t' := s.toks) (fun b o e => PyProof.Rows.sortedAll_old e) (Nat.le_succ _) ⟨?_, out, n, vals_each eo, hn⟩, rfl, q _ (I.hok.fresh (Nat.le_succ _))⟩
    rw [List.length_map, List.length_mergeSort, ← List.length_map (f := fun p : V × D => p.1)]
    exact hz
theorem d_sorted (hu : X.A.units + 64 < cLine) (hm : X.mg "sorted" = none) (ha : PE X a (tD Z Γ ma (.lst ds))) (hs : Srtb ds) (hg : Gl X "sorted" := by rfl) (he : starEach [a] X.env = (false, eval a X.env) :: starEach [] X.env := by rfl) {p : Pos} (hpl : (backTo pos (starEach [] X.env)).any (·.1) = false := by rfl) : PE X (.Call (.Name "sorted" p) [a] [] pos) (tD Z Γ (min ma 3) (.lst (sortD ds))) :=
  d_cb (ds := [.lst ds]) (cr_sortedD hu) hm (fun H R vs Q ex r q => by
    cases r with
    | cons r1 r2 =>
      cases r2
      cases r1 with
      | lst h1 h2 =>
        rename_i l ws
        obtain ⟨z1, z2, z3⟩ := h2.zip
        refine ⟨l, ws.zip ds, rfl, by rw [z1]; exact .of (ex _ _ h1), fun b hb => ((z3 b hb).1.mono ex).dp (pln_of_mem hs.p _ (z3 b hb).2), by rw [z2]; exact hs, fun p hp => q _ _ (Ex.new hp) fun R' k1 k2 => .lst (k2 _ _ (reg_has (by simp) hp upd_same trivial)) ?_⟩
        have e : sortD ds = ((ws.zip ds).mergeSort leP).map (·.2) := by
          have e1 : ((ws.zip ds).mergeSort leP).map (·.2) = ((ws.zip ds).map (·.2)).mergeSort leD := List.map_mergeSort (r := leP) (s := leD) (f := fun x : V × D => x.2) fun x _ y _ => rfl
          rw [e1, z2]; rfl
        rw [e]
        exact RepL.of_pairs fun p hp => (z3 p (List.mem_mergeSort.mp hp)).1.mono k1) (a_cons ha a_nil he) (by decide +kernel) hg (by decide) (by decide) he hpl
end
end DL
namespace DL
open PySem L2
section
variable {X : Cx} {e : Expr} {Z : Fr} {Γ : List SV} {m : Nat}
/-- the same number, said otherwise -/
theorem d_z {i j : Int} (h : PE X e (tD Z Γ m (.int i))) (hz : i = j := by omega) : PE X e (tD Z Γ m (.int j)) := hz ▸ h
end
end DL

set_option Elab.async false
set_option linter.all false
set_option maxRecDepth 100000
/-! DL14: own lists popped, extended; more of sequences. -/
namespace DL
open PySem L2
section
variable {X : Cx} {e a b c : Expr} {pos : Pos} {rest : List Stmt} {E : Ends} {σ : L2.St} {H : Hp} {Z : Fr} {Γ : List SV} {m ma mb i : Nat} {d da db : D} {ds es xs ys : List D}
theorem RepL.dropLast {R : Hp} : ∀ {vs : List V} {ds : List D}, RepL R vs ds → RepL R vs.dropLast ds.dropLast := by
  intro vs ds h
  rw [List.dropLast_eq_take, List.dropLast_eq_take, h.length]
  exact h.take _
/-- y = x.pop() -/
theorem w_pop (i j : Nat) {x y : Str} {xp yp ap cp : Pos} (hΓ : Γ[i]? = some (.own m ds)) (hd : ds[ds.length - 1]? = some d) (h : Holds Z σ H Γ) (k : ∀ σ' H', Holds Z σ' H' ((Γ.set i (.own m ds.dropLast)).set j (.dat (min m 2) d)) → wp X rest E σ' H')
    (hnz : noz Γ = true := by rfl) (hm : 1 ≤ m := by decide) (hN : X.N[i]? = some x := by rfl) (hv : Vis X.env.scope x := by first | exact Or.inl rfl | exact Or.inr (Or.inl rfl) | exact Or.inr (Or.inr rfl))
    (hdb : (x == ("__debug__" : Str)) = false := by decide) (hcd : (x == ("__classdict__" : Str)) = false := by decide) (nd : X.N.Nodup) (hj : X.N[j]? = some y := by rfl) (hx : Loc X.env.scope y := by first | exact .inl rfl | exact .inr rfl) (hf : X.fn y = true ∨ X.env.scope.names.lookup y = some .local := by first | exact .inl rfl | exact .inr rfl)
    (hline : (ap.endLine == cp.line) = true := by rfl) (hs : swapsWith (.Call (.Attribute (.Name x xp) "pop" ap) [] [] cp) (some (.Name y yp)) pos.line X.env = pure false := by rfl) :
    wp X (.Assign [.Name y yp] (.Call (.Attribute (.Name x xp) "pop" ap) [] [] cp) pos :: rest) E σ H :=
  wp_cons (ps_asg (pe_bm0 PySem.F.plainAttrs_list PySem.F.slot_list_pop PySem.F.type_list_pop mt_pop (pe_var hN hv hdb hcd) rfl hline) (pg_name nd hj hx hf) hs) (by
    obtain ⟨l, vs, e1, e2, r⟩ := own_at h hΓ
    have hvd : ∃ v, vs[vs.length - 1]? = some v ∧ Rep (rg m (Z.O σ Γ) Z.h0 Z.h0 H) v d := by
      rw [r.length]; exact r.getD hd
    obtain ⟨v, hv1, hv2⟩ := hvd
    refine ⟨.ref l, e1, .inl ⟨rfl, _, .of e2⟩, l, vs, v, rfl, rfl, e2, hv1, k _ _ ?_⟩
    have h' := h.mutate hnz hΓ e1 hm r.dropLast
    have hlO : l ∈ Z.O σ Γ := List.mem_append_right _ (mem_owns.mpr ⟨i, m, ds, e1, hΓ⟩)
    have eo : Z.O σ (Γ.set i (.own m ds.dropLast)) = Z.O σ Γ := congrArg (Z.ex ++ ·) (owns_same e1 hΓ)
    refine h'.dat j ?_
    rw [eo]
    exact (hv2.mono (rg_mut hm hlO)).mono (rg_down (Nat.min_le_left _ _) (Ex.refl _)))
/-- x.pop() -/
theorem w_pop0 (i : Nat) {x : Str} {xp ap cp : Pos} (hΓ : Γ[i]? = some (.own m ds)) (hd : ds ≠ []) (h : Holds Z σ H Γ) (k : ∀ H', Holds Z σ H' (Γ.set i (.own m ds.dropLast)) → wp X rest E σ H')
    (hnz : noz Γ = true := by rfl) (hm : 1 ≤ m := by decide) (hN : X.N[i]? = some x := by rfl) (hv : Vis X.env.scope x := by first | exact Or.inl rfl | exact Or.inr (Or.inl rfl) | exact Or.inr (Or.inr rfl))
    (hdb : (x == ("__debug__" : Str)) = false := by decide) (hcd : (x == ("__classdict__" : Str)) = false := by decide)
    (hline : (ap.endLine == cp.line) = true := by rfl) (hs : swapsWith (.Call (.Attribute (.Name x xp) "pop" ap) [] [] cp) none pos.line X.env = pure false := by rfl) :
    wp X (.Expr (.Call (.Attribute (.Name x xp) "pop" ap) [] [] cp) pos :: rest) E σ H :=
  wp_cons (ps_expr (pe_bm0 PySem.F.plainAttrs_list PySem.F.slot_list_pop PySem.F.type_list_pop mt_pop (pe_var hN hv hdb hcd) rfl hline) hs) (by
    obtain ⟨l, vs, e1, e2, r⟩ := own_at h hΓ
    have hvl : vs.length - 1 < vs.length := by
      have := r.length
      have := List.length_pos_iff.mpr hd
      omega
    exact ⟨.ref l, e1, .inl ⟨rfl, _, .of e2⟩, l, vs, vs[vs.length - 1], rfl, rfl, e2, List.getElem?_eq_getElem hvl, k _ (h.mutate hnz hΓ e1 hm r.dropLast)⟩)
/-- x.extend(e) -/
theorem w_ext (i : Nat) {x : Str} {xp ap cp : Pos} (hΓ : Γ[i]? = some (.own m ds)) (he : PE X e (tD Z Γ ma (.lst es))) (h : Holds Z σ H Γ) (k : ∀ H', Holds Z σ H' (Γ.set i (.own (min m (min ma 2)) (ds ++ es))) → wp X rest E σ H')
    (hz : ds.length + es.length ≤ 1000000) (hnz : noz Γ = true := by rfl) (hm : 1 ≤ m := by decide) (hma : 1 ≤ ma := by decide) (hN : X.N[i]? = some x := by rfl) (hv : Vis X.env.scope x := by first | exact Or.inl rfl | exact Or.inr (Or.inl rfl) | exact Or.inr (Or.inr rfl))
    (hd : (x == ("__debug__" : Str)) = false := by decide) (hcd : (x == ("__classdict__" : Str)) = false := by decide) (hst : starEach [e] X.env = (false, eval e X.env) :: starEach [] X.env := by rfl)
    (hfew : ((backTo cp (starEach (e :: []) X.env)).all (fun x => !x.1) && (backToKw cp (keywordEach [] X.env)).all (fun x => x.1.isSome) && decide ((e :: ([] : List Expr)).length + ([] : List Keyword).length + (if ([] : List Keyword).isEmpty then 0 else 1) < 30)) = true := by rfl)
    (hline : (ap.endLine == cp.line) = true := by rfl) (hplain : (backTo cp (starEach [] X.env)).any (·.1) = false := by rfl)
    (hs : swapsWith (.Call (.Attribute (.Name x xp) "extend" ap) [e] [] cp) none pos.line X.env = pure false := by rfl) : wp X (.Expr (.Call (.Attribute (.Name x xp) "extend" ap) [e] [] cp) pos :: rest) E σ H :=
  wp_cons (ps_expr (pe_bm PySem.F.plainAttrs_list PySem.F.slot_list_extend PySem.F.type_list_extend mt_extend (pe_var hN hv hd hcd) (pa_cons he pa_nil hst) rfl hfew hline hst hplain) hs) (by
    obtain ⟨l, vs, e1, e2, r⟩ := own_at h hΓ
    refine ⟨.ref l, e1, .inl ⟨rfl, _, .of e2⟩, h, fun v H' ex rv => ?_⟩
    cases rv with
    | lst q1 q2 =>
      rename_i bb ws
      have h' := h.grow ex
      refine ⟨l, bb, vs, ws, rfl, rfl, ex _ _ e2, rg_le _ _ q1, by rw [r.length, q2.length]; exact sz_of hz, k _ (h'.mutate hnz hΓ e1 (by omega) ?_)⟩
      have r1 : RepL (rg (min m (min ma 2)) (Z.O σ Γ) Z.h0 Z.h0 H') vs ds := (r.mono (rg_ex (fun _ z => .inl z) (Ex.refl _) ex)).mono (rg_down (Nat.min_le_left _ _) (Ex.refl _))
      have r2 : RepL (rg (min m (min ma 2)) (Z.O σ Γ) Z.h0 Z.h0 H') ws es := by
        have q := q2.mono (rg_down (m' := min m (min ma 2)) (by omega) h.h0x)
        match hk : min m (min ma 2), (show min m (min ma 2) ≤ 2 by omega) with
        | 0, _ => rw [hk] at q; exact q
        | 1, _ => rw [hk] at q; exact q
        | 2, _ => rw [hk] at q; exact q
      exact r1.append r2)
/-- list(a tuple) -/
theorem d_listT (hm : X.mg "list" = none) (ha : PE X a (tD Z Γ ma (.tup ds))) (hg : Gl X "list" := by rfl) (he : starEach [a] X.env = (false, eval a X.env) :: starEach [] X.env := by rfl) {p : Pos} (hpl : (backTo pos (starEach [] X.env)).any (·.1) = false := by rfl) : PE X (.Call (.Name "list" p) [a] [] pos) (tD Z Γ (min ma 3) (.lst ds)) :=
  d_ct (ds := [.tup ds]) call_list_of hm (fun H R vs Q ex r q => by
    cases r with
    | cons r1 r2 =>
      cases r2
      cases r1 with
      | tup h1 h2 =>
        refine ⟨_, _, rfl, .inr (.of (ex _ _ h1)), fun l hl => q _ _ (Ex.new hl) fun R' k1 k2 => .lst (k2 _ _ ?_) (h2.mono k1)⟩
        exact reg_has (by simp) hl upd_same trivial) (a_cons ha a_nil he) (by decide +kernel) hg (by decide) (by decide) he hpl
/-- [::-1] of a list -/
theorem d_tupS (h : PE X e (tD Z Γ m d)) (hs : ∃ w, sc d = some w) : PE X e (tD Z Γ 3 d) := let ⟨_, h1⟩ := hs; d_sc h h1
/-! ### new lists over older items -/
theorem Holds.setOwnN {H' : Hp} {l : Addr} {vs : List V} (h : Holds Z σ H Γ) (i : Nat) (e : Ex H H') (n2 : H l = none) (n3 : H' l = some (.lst vs)) (r : RepL (rg m (Z.O σ Γ) Z.h0 H H') vs ds) : Holds Z (σ.set i (some (.ref l))) H' (Γ.set i (.own (min m 2) ds)) := by
  have n1 : l ∉ Z.O σ Γ := fun z => h.dom l z n2
  have n1' : l ∉ owns σ Γ := fun z => n1 (List.mem_append_right _ z)
  have hl : rg m (Z.O σ Γ) Z.h0 H H' l = some (.lst vs) := rg_news h.dom h.h0x (Ex.refl _) n2 n3
  have hv' : RepL (wo (rg m (Z.O σ Γ) Z.h0 H H') l) vs ds := RepL.wo (.lst hl r) r (by simp only [D.lst.sizeOf_spec]; omega)
  obtain ⟨nd, hm⟩ := owns_set_own (l := l) (m := min m 2) (ds := ds) (σ := σ) (Γ := Γ) i n1' h.nd
  have hm' : ∀ a, a ∈ Z.O (σ.set i (some (.ref l))) (Γ.set i (.own (min m 2) ds)) → a = l ∨ a ∈ Z.O σ Γ := fun a z => by
    rcases List.mem_append.mp z with z | z
    · exact .inr (List.mem_append_left _ z)
    · exact (hm a z).imp id (List.mem_append_right _)
  have hO : ∀ a, a ∈ Z.O (σ.set i (some (.ref l))) (Γ.set i (.own (min m 2) ds)) → a ∈ Z.O σ Γ ∨ H a = none := fun a z => by
    rcases hm' a z with q | q
    · exact .inr (by rw [q]; exact n2)
    · exact .inl q
  refine ⟨fun B hB => ⟨(h.ext B hB).1.trans e, fun a z => ?_⟩, fun a ha => ⟨fun z => (h.exd a ha).1 (Ex.free e z), fun z => ?_⟩, by rw [List.length_set, List.length_set]; exact h.len, nd, fun j o' sv' e1 e2 => ?_, fun g hg => (h.gok g hg).mono hO e (fun a ha => (h.exd a ha).1) (fun _ _ z => z), h.gap, h.fnt⟩
  · rcases hm' a z with q | q
    · rw [q]; exact Ex.free (h.ext B hB).1 n2
    · exact (h.ext B hB).2 a q
  · rcases hm a z with q | q
    · subst q; exact (h.exd a ha).1 n2
    · exact (h.exd a ha).2 q
  by_cases hj : i = j
  · subst hj
    have hil : i < σ.length := by
      have := (List.getElem?_eq_some_iff.mp e1).1
      rw [List.length_set] at this; exact this
    rw [List.getElem?_set_self hil] at e1
    rw [List.getElem?_set_self (by rw [← h.len]; exact hil)] at e2
    cases e1; cases e2
    refine ⟨l, vs, rfl, n3, Ex.free h.h0x n2, hv'.mono fun a o q => ?_⟩
    have hne : a ≠ l := fun z => by rw [z] at q; unfold wo at q; rw [if_pos rfl] at q; cases q
    rw [wo_ne hne] at q
    have q := rg_down (m' := min m 2) (Nat.min_le_left _ _) h.h0x _ _ q
    have hO' : a ∉ Z.O σ Γ → a ∉ Z.O (σ.set i (some (.ref l))) (Γ.set i (.own (min m 2) ds)) := fun hn z => (hm' a z).elim hne hn
    match hk : min m 2, Nat.min_le_right m 2 with
    | 0, _ => rw [hk] at q; exact q
    | 1, _ =>
      rw [hk] at q hO'
      obtain ⟨q1, q2, q3, q4⟩ := reg_some4 q
      show reg _ hn H' a = _
      exact reg_has (hO' q1) q2 q3 q4
    | 2, _ =>
      rw [hk] at q hO'
      obtain ⟨q1, q2, q3, q4⟩ := reg_some4 q
      show reg _ Z.h0 H' a = _
      exact reg_has (hO' q1) q2 q3 q4
  · rw [List.getElem?_set_ne hj] at e1 e2
    exact (h.ok j o' sv' e1 e2).mono hO e
def tN (Z : Fr) (Γ : List SV) (m : Nat) (ds : List D) : TE := fun σ H Q => Holds Z σ H Γ ∧ ∀ l vs H', Ex H H' → H l = none → H' l = some (.lst vs) → RepL (rg m (Z.O σ Γ) Z.h0 H H') vs ds → Q (.ref l) H'
theorem n_d (h : PE X e (tN Z Γ m ds)) : PE X e (tD Z Γ m (.lst ds)) := pe_imp h fun σ H Q q => ⟨q.1, fun l vs H' ex n2 n3 r => q.2 _ H' ex (.lst (rg_news q.1.dom q.1.h0x (Ex.refl _) n2 n3) r)⟩
theorem n_lst {es : List Expr} (h : PA X es (tDA Z Γ m ds)) (hl : ds.length ≤ sizeLine) : PE X (.List es pos) (tN Z Γ m ds) :=
  pe_imp (pe_lst h) fun σ H Q k => ⟨k.1, fun vs H1 e1 r1 => ⟨by rw [r1.length]; exact hl, fun p hp => k.2 p vs _ (e1.trans (Ex.new hp)) (Ex.free e1 hp) upd_same (r1.mono (rg_ex (fun _ z => .inl z) (Ex.refl _) (Ex.new hp)))⟩⟩
theorem n_list (hm : X.mg "list" = none) (ha : PE X a (tD Z Γ ma (.lst ds))) (hg : Gl X "list" := by rfl) (he : starEach [a] X.env = (false, eval a X.env) :: starEach [] X.env := by rfl) {p : Pos} (hpl : (backTo pos (starEach [] X.env)).any (·.1) = false := by rfl) : PE X (.Call (.Name "list" p) [a] [] pos) (tN Z Γ ma ds) :=
  pe_imp (pe_callTy call_list_of hg hm (by decide +kernel) (a_w (m := min ma 3 - (min ma 3 - min ma 3)) (a_cons ha a_nil he) (by omega)) (by decide) (by decide) he hpl) fun σ H Q h => ⟨h.1, fun vs H1 e1 r => by
    have hle : min ma 3 - (min ma 3 - min ma 3) = min ma 3 := by omega
    rw [hle] at r
    cases r with
    | @cons v0 _ _ _ r1 r2 =>
      cases r2
      have r1 : Rep (rg ma (Z.O σ Γ) Z.h0 H H1) v0 (.lst ds) := by
        by_cases h3 : ma ≤ 3
        · rw [Nat.min_eq_left h3] at r1; exact r1
        · rw [Nat.min_eq_right (by omega)] at r1
          match ma, h3 with
          | k + 3, _ => exact r1
          | 0, h => omega
          | 1, h => omega
          | 2, h => omega
      cases r1 with
      | lst h1 h2 =>
        exact ⟨_, _, rfl, .inl (.of (rg_le _ _ h1)), fun l hl => h.2 l _ _ (e1.trans (Ex.new hl)) (Ex.free e1 hl) upd_same (h2.mono (rg_ex (fun _ z => .inl z) (Ex.refl _) (Ex.new hl)))⟩⟩
theorem n_sl {lo hi : Option Expr} {kl kh : Option Int} {p2 : Pos} (h : PE X e (tD Z Γ m (.lst ds))) (hl : PO X lo (tDO Z Γ kl)) (hh : PO X hi (tDO Z Γ kh)) : PE X (.Subscript e (.Slice lo hi none p2) pos) (tN Z Γ m (cutD ds kl kh)) :=
  pe_imp (pe_slice sl_list h hl hh) fun σ H Q k => ⟨k.1, fun x H1 e1 r => ⟨k.1.grow e1, fun H2 e2 => ⟨k.1.grow (e1.trans e2), fun H3 e3 => by
    cases r with
    | lst h1 h2 =>
      have e13 := e2.trans e3
      have e03 := e1.trans e13
      exact ⟨_, _, rfl, .of (e13 _ _ (rg_le _ _ h1)), fun p hp => k.2 p _ _ (e03.trans (Ex.new hp)) (Ex.free e03 hp) upd_same ((h2.cut kl kh).mono (rg_ex (fun _ z => .inl z) (Ex.refl _) (e13.trans (Ex.new hp))))⟩⟩⟩⟩
/-- x = a new list over older items: the slot's own -/
theorem w_ownN (i : Nat) {x : Str} {p : Pos} (he : PE X e (tN Z Γ m ds)) (h : Holds Z σ H Γ) (k : ∀ σ' H', Ex H H' → Holds Z σ' H' (Γ.set i (.own (min m 2) ds)) → wp X rest E σ' H')
    (hN : X.N.Nodup) (hi : X.N[i]? = some x := by rfl) (hx : Loc X.env.scope x := by first | exact .inl rfl | exact .inr rfl) (hf : X.fn x = true ∨ X.env.scope.names.lookup x = some .local := by first | exact .inl rfl | exact .inr rfl)
    (hs : swapsWith e (some (.Name x p)) pos.line X.env = pure false := by rfl) : wp X (.Assign [.Name x p] e pos :: rest) E σ H :=
  wp_cons (ps_asg he (pg_name hN hi hx hf) hs) ⟨h, fun l vs H' ex n2 n3 r => k _ H' ex (h.setOwnN i ex n2 n3 r)⟩
end
end DL

set_option Elab.async false
set_option linter.all false
set_option maxRecDepth 100000
/-! DL15: tables of code objects; lambdas handed to a def. -/
namespace DL
open PySem L2
abbrev Tb : Type := List (Addr × Str)
theorem tbl_not {ps : Array Value} : ¬ ntb (.tbl ps) := fun h => h
theorem codeO_nt {c : Addr} {q : Str} : ntb (LamX.CodeO c q) := by unfold LamX.CodeO; exact trivial
/-- the tables are told -/
def gTab (T : Tb) : GS where
  as := T.map (·.1)
  m := 1
  P := fun R O => ∀ p ∈ T, ∃ ps : Array Value, O p.1 = some (.tbl ps) ∧ TriplesOk ps.toList ∧ ∀ (pos : Pos) (cv : Value), codeAmong pos ps.toList = some cv → ∃ c, cv = .ref c ∧ R c = some (LamX.CodeO c p.2)
  mono := fun e h p hp => by
    obtain ⟨ps, h1, h2, h3⟩ := h p hp
    refine ⟨ps, h1, h2, fun pos cv hc => ?_⟩
    obtain ⟨c, e1, e2⟩ := h3 pos cv hc
    exact ⟨c, e1, e _ _ e2⟩
section
variable {Z : Fr} {H H' : Hp} {σ : L2.St} {Γ : List SV} {T : Tb}
theorem Holds.tabs (h : Holds Z σ H Γ) (hg : gTab T ∈ Z.gs) : LamX.Tabs T H := fun p hp => by
  obtain ⟨_, _, q⟩ := h.gok _ hg
  obtain ⟨ps, h1, h2, h3⟩ := q p hp
  refine ⟨ps, (only_some h1).2, h2, fun pos cv hc => ?_⟩
  obtain ⟨c, e1, e2⟩ := h3 pos cv hc
  exact ⟨c, e1, rg_le _ _ e2⟩
theorem tabs_ok {ex : List Addr} {O : List Addr} {H0 : Hp} (t : LamX.Tabs T H) (hx : ∀ p ∈ T, p.1 ∈ ex) (hO : ∀ c q, H c = some (LamX.CodeO c q) → c ∉ O) : GOk H0 O ex H (gTab T) := by
  refine ⟨fun a ha => ?_, Nat.le_refl _, fun p hp => ?_⟩
  · obtain ⟨p, hp, rfl⟩ := List.mem_map.mp ha
    exact hx p hp
  · obtain ⟨ps, h1, h2, h3⟩ := t p hp
    refine ⟨ps, (only_at (List.mem_map.mpr ⟨p, hp, rfl⟩)).trans h1, h2, fun pos cv hc => ?_⟩
    obtain ⟨c, e1, e2⟩ := h3 pos cv hc
    exact ⟨c, e1, reg_has (hO c _ e2) rfl e2 codeO_nt⟩
/-- behind a call that may write the tables -/
theorem Holds.afterT (h : Holds Z σ H Γ) (hx : Z.ex = T.map (·.1)) (hgs : Z.gs = [gTab T]) (hnt : ∀ a o, Z.h0 a = some o → ntb o) (e : ExT H H') (t : LamX.Tabs T H') : Holds Z σ H' Γ := by
  have hne : ∀ a ∈ Z.ex, ∃ ps, H' a = some (.tbl ps) := fun a ha => by
    rw [hx] at ha
    obtain ⟨p, hp, rfl⟩ := List.mem_map.mp ha
    obtain ⟨ps, h1, _⟩ := t p hp
    exact ⟨ps, h1⟩
  have q := h.growT (gs' := [gTab T]) e (fun a ha => by obtain ⟨ps, z⟩ := hne a ha; rw [z]; simp) (fun a o z => e a o (h.h0x a o z) (hnt a o z)) (fun g hg => by
    rw [List.mem_singleton.mp hg]
    refine tabs_ok t (fun p hp => by rw [hx]; exact List.mem_map.mpr ⟨p, hp, rfl⟩) fun c qn hc hO => ?_
    rcases List.mem_append.mp hO with z | z
    · obtain ⟨ps, w⟩ := hne c z
      rw [hc] at w
      unfold LamX.CodeO at w
      cases w
    · obtain ⟨vs, w⟩ := h.own_at z
      have w' := e _ _ w trivial
      rw [hc] at w'
      unfold LamX.CodeO at w'
      cases w') (by unfold Apart; exact List.pairwise_singleton _ _)
  have ez : ({ Z with gs := [gTab T] } : Fr) = Z := by rw [← hgs]
  rw [ez] at q; exact q
/-- a def's entry with tables -/
abbrev frT (T : Tb) (H : Hp) : Fr := { h0 := reg (T.map (·.1)) hn H, ex := T.map (·.1), gs := [gTab T] }
theorem offT {H : Hp} (t : LamX.Tabs T H) : Ex (nt H) (reg (T.map (·.1)) hn H) := fun a o e => by
  obtain ⟨e1, e2⟩ := nt_some e
  refine reg_has (fun z => ?_) rfl e1 e2
  obtain ⟨p, hp, rfl⟩ := List.mem_map.mp z
  obtain ⟨ps, h1, _⟩ := t p hp
  rw [e1] at h1; cases h1
  exact tbl_not e2
theorem holds_startT {N : List Str} {vs : List V} {ds : List D} {H : Hp} (t : LamX.Tabs T H) (r : RepL H vs ds) (Γ : List SV) (hN : ds.length ≤ N.length) (hΓ : Γ = ds.map (SV.dat 1) ++ List.replicate (N.length - ds.length) .any) : Holds (frT T H) (L2.start N vs) H Γ := by
  have h0 := holds_start r Γ hN hΓ
  have no : owns (L2.start N vs) Γ = [] := by
    apply List.eq_nil_iff_forall_not_mem.mpr
    intro a ha
    obtain ⟨i, m, es, q1, q2⟩ := mem_owns.mp ha
    rw [hΓ] at q2
    by_cases hi : i < ds.length
    · rw [List.getElem?_append_left (by rw [List.length_map]; exact hi), List.getElem?_map, List.getElem?_eq_getElem hi] at q2
      cases q2
    · rw [List.getElem?_append_right (by rw [List.length_map]; omega), List.getElem?_replicate] at q2
      split at q2 <;> cases q2
  have tb : ∀ l ∈ T.map (·.1), ∃ ps, H l = some (.tbl ps) := fun l hl => by
    obtain ⟨p, hp, rfl⟩ := List.mem_map.mp hl
    obtain ⟨ps, h1, _⟩ := t p hp
    exact ⟨ps, h1⟩
  have eO : (frT T H).O (L2.start N vs) Γ = T.map (·.1) := by
    show T.map (·.1) ++ owns _ _ = _
    rw [no, List.append_nil]
  refine ⟨fun B hB => ?_, fun l hl => ?_, h0.len, h0.nd, fun i o sv e1 e2 => ?_, fun g hg => ?_, by unfold Apart; exact List.pairwise_singleton _ _, fun B hB => absurd hB (by simp)⟩
  · rcases hB with z | z
    · rw [z, eO]
      exact ⟨reg_le, fun l hl => show reg _ _ _ l = none by unfold reg; rw [if_pos (.inl hl)]⟩
    · exact absurd z (by simp)
  · obtain ⟨ps, z⟩ := tb l hl
    rw [z, no]
    exact ⟨by simp, by simp⟩
  · have q := h0.ok i o sv e1 e2
    cases sv with
    | any => trivial
    | raw v => exact q
    | dat m d =>
      obtain ⟨v, q1, q2⟩ := q
      refine ⟨v, q1, ?_⟩
      rw [hΓ] at e2
      have hm : m = 1 := by
        by_cases hi : i < ds.length
        · rw [List.getElem?_append_left (by rw [List.length_map]; exact hi), List.getElem?_map, List.getElem?_eq_getElem hi] at e2
          cases e2; rfl
        · rw [List.getElem?_append_right (by rw [List.length_map]; omega), List.getElem?_replicate] at e2
          split at e2 <;> cases e2
      subst hm
      rw [eO]
      exact (q2.mono rg_le).nt.mono (offT t)
    | own m es =>
      rw [hΓ] at e2
      by_cases hi : i < ds.length
      · rw [List.getElem?_append_left (by rw [List.length_map]; exact hi), List.getElem?_map, List.getElem?_eq_getElem hi] at e2
        cases e2
      · rw [List.getElem?_append_right (by rw [List.length_map]; omega), List.getElem?_replicate] at e2
        split at e2 <;> cases e2
  · rw [List.mem_singleton.mp hg, eO]
    refine tabs_ok t (fun p hp => List.mem_map.mpr ⟨p, hp, rfl⟩) fun c qn hc hO => ?_
    obtain ⟨ps, z⟩ := tb c hO
    rw [hc] at z
    unfold LamX.CodeO at z
    cases z
theorem frT_nt {H : Hp} : ∀ a o, (frT T H).h0 a = some o → ntb o := fun a o e => (reg_some4 e).2.2.2
theorem Holds.outT {H0 : Hp} (t : LamX.Tabs T H0) (h : Holds (frT T H0) σ H Γ) : ExT H0 H := fun a o e k => h.h0x a o (offT t _ _ (nt_at e k))
end
/-- a def's promise: True comes; the tables may be written -/
def PurT {α : Type} (T : Tb) (arg : α → List D) (pre : α → Prop) : Sp := fun vs H Q _ => ∃ a, RepL H vs (arg a) ∧ pre a ∧ LamX.Tabs T H ∧ ∀ H', ExT H H' → LamX.Tabs T H' → Q (.bl true) H'
section
variable {P : Program} {w : World} {K : PySem.W.Frag} {mg : Str → Option Value} {base : Heap}
theorem Fun.purT {α : Type} {T : Tb} {x qual : Str} {st : Stmt} {f : Addr} {fd : FuncData} {N ps : List Str} {k : Nat} {arg : α → List D} {pre : α → Prop} (F : Fun K x qual st f fd) (S : FnScope N ps (defScope st)) (len : ∀ a, (arg a).length = ps.length) (hN : ps.length ≤ N.length)
    (hbody : ∀ (cdv : Value) (A : Around) (outer : List Env) (s : Shared) (H : Hp) (σ : L2.St) (E : XK) (Q : VK) (a : α), fd.code = cdv → Room k (A.deeper (PyProof.Rows.envOfC qual (defScope st) s.heap.objs.size f cdv)) → pre a →
      Holds (frT T H) σ H ((arg a).map (SV.dat 1) ++ List.replicate (N.length - ps.length) .any) → (∀ σ' H' Γ', Holds (frT T H) σ' H' Γ' → Q (.bl true) H') →
      wp (cxOf CX0 P w K mg base N qual (defScope st) f cdv A outer s H E).nox (defBody st) { nx := fun _ H' => Q .non H', rt := Q } σ H) : FnOk P w K mg base CX0 (k + 1) f fd ps (PurT T arg pre) := by
  obtain ⟨oc, od, kV, doc, pm, an, cdv, ct, osl, rfl, lk, hcd⟩ := F.ex
  refine fn_of lk hcd S (fun vs H Q E h => ?_) fun A outer s H vs Q E hr hsp => ?_
  · obtain ⟨a, r, _⟩ := (show ∃ a, RepL H vs (arg a) ∧ _ from h)
    rw [r.length, len]
  · obtain ⟨a, r, hp, t, q⟩ := hsp
    obtain ⟨tt, h, q'⟩ := hbody cdv A outer s H (L2.start N vs) E Q a rfl hr hp (holds_startT t r _ (by rw [len]; exact hN) (by rw [len])) fun σ' H' Γ' h' => q H' (h'.outT t) (h'.tabs List.mem_cons_self)
    exact ⟨tt, h.nox, q'⟩
end
/-! ### tests that may write the tables -/
def tDTH (Z : Fr) (Γ : List SV) (b : Bool) : TT := fun σ H Q => Holds Z σ H Γ ∧ ∀ H', Holds Z σ H' Γ → Q b H'
section
variable {X : Cx} {e a b c : Expr} {pos : Pos} {rest as bs : List Stmt} {E : Ends} {σ : L2.St} {H : Hp} {Z : Fr} {Γ : List SV} {m : Nat} {ds : List D} {T : Tb}
theorem h_not {p : Bool} (h : PT X a (tDTH Z Γ p)) : PT X (.UnaryOp .Not a pos) (tDTH Z Γ (!p)) := pt_imp (pt_not h) fun σ H Q h => ⟨h.1, fun H' e => h.2 H' e⟩
theorem w_ifH {b : Bool} (hc : PT X c (tDTH Z Γ b)) (h : Holds Z σ H Γ) (k1 : b = true → ∀ H', Holds Z σ H' Γ → wp X as { E with nx := fun σ' H' => wp X rest E σ' H' } σ H') (k2 : b = false → ∀ H', Holds Z σ H' Γ → wp X bs { E with nx := fun σ' H' => wp X rest E σ' H' } σ H') :
    wp X (.If c as bs pos :: rest) E σ H :=
  wp_cons (ps_if hc (pss_wp as) (pss_wp bs)) ⟨h, fun H' h' => by
    cases b with
    | true => exact iteT (k1 rfl H' h')
    | false => exact iteF (k2 rfl H' h')⟩
/-- f(..) of a def that keeps a promise of PurT, as a test -/
theorem h_fn {α : Type} {arg : α → List D} {pre : α → Prop} {j k : Nat} {x : Str} {st : Stmt} {ps : List Str} {p : Pos} {es : List Expr} (D : Dfn X.K X.mg x st ps) (F : FnOk X.prog X.w X.K X.mg X.base CX0 k D.f D.fd ps (PurT T arg pre)) (hr : Room j X.A) (v : α) (hv : pre v) (hx : Z.ex = T.map (·.1)) (hgs : Z.gs = [gTab T])
    (hnt : ∀ a o, Z.h0 a = some o → ntb o) (ha : PA X (e :: es) (tDA Z Γ m (arg v))) (hk : k ≤ j := by decide) (hg : Gl X x := by rfl) (hdb : (x == ("__debug__" : Str)) = false := by decide) (he : starEach (e :: es) X.env = (false, eval e X.env) :: starEach es X.env := by rfl) (hpl : (backTo pos (starEach es X.env)).any (·.1) = false := by rfl)
    (hp : ∀ whole, isTrue (.Call (.Name x p) (e :: es) [] pos) X.env whole = (do let v ← whole; standAt (Expr.Call (.Name x p) (e :: es) [] pos).pos; holding [v] (truthy v)) := by intro _; rfl) : PT X (.Call (.Name x p) (e :: es) [] pos) (tDTH Z Γ true) :=
  pt_imp (pt_val (pe_call F (hr.mono hk) hg D.g D.F.kp D.b .nil pass0 ha hdb he hpl) hp) fun σ H Q h => ⟨h.1, fun vs H1 e1 r1 => by
    have h1 := h.1.grow e1
    refine ⟨v, by rw [List.append_nil]; exact r1.mono rg_le, hv, h1.tabs (by rw [hgs]; exact List.mem_cons_self), fun H' e' t => ⟨true, rfl, h.2 H' (h1.afterT hx hgs hnt e' t)⟩⟩⟩
end
end DL

set_option Elab.async false
set_option linter.all false
set_option maxRecDepth 100000
/-! DL16: a lambda handed to a def that calls it and looks at the exception. -/
namespace DL
open PySem L2
/-- what such a def makes of it: True where an exception of the class at C comes -/
def TIdle (C : Addr) : (XK → Hp → VK → Prop) → Hp → VK → Prop := fun tl H Q => tl (fun cls d H' => cls = .ref C ∧ d = none ∧ Q (.bl true) H') H fun _ _ => False
/-- a wish may be strengthened -/
theorem pe_strong {X : Cx} {e : Expr} {t : TE} (h : PE X e t) : PE X e (fun σ H Q => ∃ Q' : VK, (∀ v H', Q' v H' → Q v H') ∧ t σ H Q') := ⟨fun pins s σ H Q I ⟨Q', hm, q⟩ => wpAny_mono (h.run pins s σ H Q' I q) (fun u s' ⟨v, H', J, r, z⟩ => ⟨v, H', J, r, hm v H' z⟩) fun _ _ z => z⟩
section
variable {X : Cx} {pos : Pos} {Z : Fr} {Γ : List SV} {T : Tb}
/-- x(lambda: body), body raises an exception of the class at C -/
theorem pe_lam {x a : Str} {st : Stmt} {Ng : List Str} {c P C : Addr} {k : Nat} {params : Arguments} {body : Expr} {scope : Scope} {p lpos : Pos} {t : XK → TE} (D : Dfn X.K X.mg x st [a]) (Sg : FnScope Ng [a] (defScope st)) (hNg : Ng[0]? = some a) (hva : Vis (defScope st) a)
    (hG : ∀ cdv, LamX.GivesTo X Ng x (defScope st) D.f cdv (defBody st) a (X.env.qual ++ "<lambda>") (TIdle C)) (TB : LamX.TabB X.base X.mg c P) (hcode : X.env.code = .ref c) (hmT : (P, X.env.qual ++ "<lambda>") ∈ T) (hu : ∀ p ∈ T, p.1 = P → p.2 = X.env.qual ++ "<lambda>")
    (hr : Room (k + 2) X.A) (L : LamX.LamS X.env.scope scope)
    (hbody : ∀ (A : Around) (outer : List Env) (s : Shared) (H : Hp) (E : XK) (f c' : Addr), Room k (A.deeper (LamX.lamEnv X scope s.heap.objs.size f c')) → PE (LamX.lamCx X A outer s H E scope f c') body (t E)) (hg : Gl X x := by rfl)
    (hdef : defaultsOf params X.env = ([], []) := by rfl) (hbind : ∀ (q : Str) (cl : List (Str × Addr)) (pm cv ctv : Value), bindArgs (PySem.W.kla_fn "<lambda>" q params body scope cl pm cv ctv) ⟨[], []⟩ = pure [] := by intro _ _ _ _ _; rfl)
    (hdb : (x == ("__debug__" : Str)) = false := by decide) (hd : (a == ("__debug__" : Str)) = false := by decide) (hcd : (a == ("__classdict__" : Str)) = false := by decide) :
    PE X (.Call (.Name x p) [.Lambda params body scope lpos] [] pos) (LamX.tLam T (TIdle C) t) := by
  obtain ⟨oc, od, kV, doc, pm, an, cdv, ct, osl, e, lk, hcd'⟩ := D.F.ex
  have hb := D.b
  rw [e] at lk hb
  exact LamX.pe_lamcall hg D.g D.F.kp lk hcd' hb Sg hNg hva (hG cdv) TB hcode hmT hu hr L hdef hbind hbody hdb hd hcd
/-- .. read: True comes, the tables may be written -/
theorem lam_true {C : Addr} {σ : L2.St} {H : Hp} {Q : VK} (hx : Z.ex = T.map (·.1)) (hgs : Z.gs = [gTab T]) (hnt : ∀ a o, Z.h0 a = some o → ntb o) (h : Holds Z σ H Γ) (q : ∀ H', Holds Z σ H' Γ → Q (.bl true) H') : LamX.tLam T (TIdle C) (fun E => tX Z Γ E (.inl C)) σ H Q :=
  ⟨h.tabs (by rw [hgs]; exact List.mem_cons_self), fun H1 e1 t1 => by
    have h1 : Holds Z σ H1 Γ := h.afterT hx hgs hnt (fun a o z k => e1 a o z fun ps w => by rw [w] at k; exact k) t1
    exact ⟨h1, fun H' ex => ⟨rfl, rfl, q H' (h1.grow ex)⟩⟩⟩
end
end DL

set_option Elab.async false
set_option linter.all false
set_option maxRecDepth 100000
/-! DL17: what a datum stands on; hidden lists walked and changed. -/
namespace DL
open PySem L2
theorem only_sub {as bs : List Addr} {H : Hp} (h : ∀ a ∈ as, a ∈ bs) : Ex (only as H) (only bs H) := fun a o e => by
  obtain ⟨h1, h2⟩ := only_some e
  rw [only_at (h a h1)]; exact h2
mutual
/-- the addresses that a datum stands on -/
theorem Rep.sup {R : Hp} : ∀ {v : V} {d : D}, Rep R v d → ∃ as, (∀ a ∈ as, R a ≠ none) ∧ Rep (only as R) v d
  | _, _, .non => ⟨[], by simp, .non⟩
  | _, _, .bl b => ⟨[], by simp, .bl b⟩
  | _, _, .int i => ⟨[], by simp, .int i⟩
  | _, _, .str x => ⟨[], by simp, .str x⟩
  | _, _, .lst (a := a) h hs => by
    obtain ⟨as, h1, h2⟩ := RepL.sup hs
    refine ⟨a :: as, fun b hb => ?_, .lst (by rw [only_at List.mem_cons_self]; exact h) (h2.mono (only_sub fun _ z => List.mem_cons_of_mem _ z))⟩
    rcases List.mem_cons.mp hb with z | z
    · rw [z, h]; simp
    · exact h1 b z
  | _, _, .tup (a := a) h hs => by
    obtain ⟨as, h1, h2⟩ := RepL.sup hs
    refine ⟨a :: as, fun b hb => ?_, .tup (by rw [only_at List.mem_cons_self]; exact h) (h2.mono (only_sub fun _ z => List.mem_cons_of_mem _ z))⟩
    rcases List.mem_cons.mp hb with z | z
    · rw [z, h]; simp
    · exact h1 b z
  | _, _, .emp (a := a) h => ⟨[a], fun b hb => by rw [List.mem_singleton.mp hb, h]; simp, .emp (by rw [only_at (List.mem_singleton.mpr rfl)]; exact h)⟩
  | _, _, .obj (a := a) h n hs => by
    obtain ⟨as, h1, h2⟩ := RepL.sup hs
    refine ⟨a :: as, fun b hb => ?_, .obj (by rw [only_at List.mem_cons_self]; exact h) n (h2.mono (only_sub fun _ z => List.mem_cons_of_mem _ z))⟩
    rcases List.mem_cons.mp hb with z | z
    · rw [z, h]; simp
    · exact h1 b z
theorem RepL.sup {R : Hp} : ∀ {vs : List V} {ds : List D}, RepL R vs ds → ∃ as, (∀ a ∈ as, R a ≠ none) ∧ RepL (only as R) vs ds
  | _, _, .nil => ⟨[], by simp, .nil⟩
  | _, _, .cons h hs => by
    obtain ⟨as, h1, h2⟩ := Rep.sup h
    obtain ⟨bs, k1, k2⟩ := RepL.sup hs
    refine ⟨as ++ bs, fun b hb => (List.mem_append.mp hb).elim (h1 b) (k1 b), .cons (h2.mono (only_sub fun _ z => List.mem_append_left _ z)) (k2.mono (only_sub fun _ z => List.mem_append_right _ z))⟩
end
section
variable {X : Cx} {e a b : Expr} {pos : Pos} {rest body : List Stmt} {E : Ends} {σ : L2.St} {H : Hp} {Z : Fr} {Γ : List SV} {m i : Nat} {d : D} {ds : List D} {tg iter : Expr}
/-- x = e, told of the very state -/
theorem w_setE (i : Nat) {x : Str} {p : Pos} (he : PE X e (tD Z Γ m d)) (h : Holds Z σ H Γ) (k : ∀ v H', Ex H H' → Rep (rg m (Z.O σ Γ) Z.h0 H H') v d → wp X rest E (σ.set i (some v)) H')
    (hN : X.N.Nodup) (hi : X.N[i]? = some x := by rfl) (hx : Loc X.env.scope x := by first | exact .inl rfl | exact .inr rfl) (hf : X.fn x = true ∨ X.env.scope.names.lookup x = some .local := by first | exact .inl rfl | exact .inr rfl)
    (hs : swapsWith e (some (.Name x p)) pos.line X.env = pure false := by rfl) : wp X (.Assign [.Name x p] e pos :: rest) E σ H :=
  wp_cons (ps_asg he (pg_name hN hi hx hf) hs) ⟨h, k⟩
/-- a datum becomes hidden: what held ahead of it holds on -/
theorem Holds.loose {H' H2 : Hp} {v : V} (h : Holds Z σ H Γ) (e : Ex H H') (r : Rep (rg 3 (Z.O σ Γ) Z.h0 H H') v d) (e2 : Ex H' H2) (i : Nat) : ∃ as, (∀ a ∈ as, H a = none ∧ H2 a ≠ none) ∧ Rep (only as H2) v d ∧ Holds { Z with ex := as ++ Z.ex } (σ.set i (some v)) H2 (Γ.set i (.raw v)) := by
  obtain ⟨as, h1, h2⟩ := r.sup
  have hm : ∀ a ∈ as, H a = none ∧ H' a ≠ none := fun a ha => by
    cases q : rg 3 (Z.O σ Γ) Z.h0 H H' a with
    | none => exact absurd q (h1 a ha)
    | some o =>
      obtain ⟨_, q2, q3⟩ := reg_some q
      exact ⟨q2, by rw [q3]; simp⟩
  have hm2 : ∀ a ∈ as, H a = none ∧ H2 a ≠ none := fun a ha => ⟨(hm a ha).1, fun z => (hm a ha).2 (Ex.free e2 z)⟩
  refine ⟨as, hm2, h2.mono fun a o z => ?_, (h.hides (e.trans e2) hm2).raw i v⟩
  obtain ⟨z1, z2⟩ := only_some z
  rw [only_at z1]
  exact e2 _ _ (rg_le _ _ z2)
/-- for x in a hidden list: body; Zs: what is told, turn by turn -/
theorem w_forG (Zs : Nat → Fr) {l : Addr} {ts : List V} (j : Nat) {x : Str} {xp : Pos} (hi : PE X iter (tR (Zs 0) Γ (.ref l))) (hp : PassesOwn (model X.prog X.w) X.A X.env X.xe) (hc : X.calm = true) (h : Holds (Zs 0) σ H Γ) (hj : Γ[j]? = some .any)
    (hl : ∀ i σ' H', i ≤ ts.length → Holds (Zs i) σ' H' Γ → H' l = some (.lst ts))
    (turn : ∀ i t σ' H', ts[i]? = some t → Holds (Zs i) σ' H' (Γ.set j (.raw t)) → wp X body { E with nx := fun σ2 H2 => Holds (Zs (i + 1)) σ2 H2 Γ, ct := fun σ2 H2 => Holds (Zs (i + 1)) σ2 H2 Γ, bk := fun σ' H' => wp X rest E σ' H' } σ' H')
    (after : ∀ σ' H', Holds (Zs ts.length) σ' H' Γ → wp X rest E σ' H')
    (nd : X.N.Nodup) (hN : X.N[j]? = some x := by rfl) (hx : Loc X.env.scope x := by first | exact .inl rfl | exact .inr rfl) (hf : X.fn x = true ∨ X.env.scope.names.lookup x = some .local := by first | exact .inl rfl | exact .inr rfl) (hs : ∀ x, foldedSetIterable iter X.env x = pure x := by intro _; rfl) : wp X (.For (.Name x xp) iter body [] pos :: rest) E σ H := by
  refine wp_cons (ps_for hp hc (pi_list hi) (pg_name nd hN hx hf) (pss_wp body) hs) ⟨h, fun H1 e1 => ⟨l, rfl, ⟨ts, .of (hl 0 σ H1 (Nat.zero_le _) (h.grow e1))⟩, ?_⟩⟩
  refine ⟨fun i n σ' H' => n = ts.length - i ∧ i ≤ ts.length ∧ Holds (Zs i) σ' H' Γ, ⟨ts.length, by simp, Nat.zero_le _, h.grow e1⟩, ?_⟩
  rintro i n σ' H' ⟨rfl, hi, p'⟩
  have hL := hl i σ' H' hi p'
  by_cases hlt : i < ts.length
  · refine .inr ⟨⟨ts, ts[i], .of hL, List.getElem?_eq_getElem hlt⟩, fun σ2 H2 => Holds (Zs (i + 1)) σ2 H2 Γ, fun σ2 H2 q => ⟨ts.length - (i + 1), by omega, rfl, hlt, q⟩, fun y H2 q => ?_⟩
    obtain ⟨rfl, q⟩ := q
    have q := q ts (.of hL)
    exact turn i y _ _ q (p'.raw j y)
  · have e : i = ts.length := by omega
    subst e
    exact .inl ⟨⟨ts, .of hL, Nat.le_refl _⟩, after σ' H' p'⟩
theorem t_isN {ma : Nat} {da : D} {j p'} (ha : PE X a (tD Z Γ ma da)) : PT X (.Compare a [.Is] [.Constant .none j p'] pos) (tDT Z Γ (isNon da)) :=
  pt_imp (pt_cmp (pc_isN ha) rfl) fun σ H Q h => ⟨h.1, fun v H' e r => ⟨isNon da, by rw [← rep_non r], h.2 H' e⟩⟩
theorem t_notN {ma : Nat} {da : D} {j p'} (ha : PE X a (tD Z Γ ma da)) : PT X (.Compare a [.IsNot] [.Constant .none j p'] pos) (tDT Z Γ (!isNon da)) :=
  pt_imp (pt_cmp (pc_notN ha) rfl) fun σ H Q h => ⟨h.1, fun v H' e r => ⟨!isNon da, by rw [← rep_non r], h.2 H' e⟩⟩
theorem d_isList {ma : Nat} {da : D} {pT p : Pos} (hm : X.mg "isinstance" = none) (ha : PE X a (tD Z Γ ma da)) (hT : X.mg "list" = none) (hk : knd da = true := by rfl) (hg : Gl X "isinstance" := by rfl) (hgT : Gl X "list" := by rfl)
    (he : starEach [a, .Name "list" pT] X.env = (false, eval a X.env) :: starEach [.Name "list" pT] X.env := by rfl) (he2 : starEach [.Name "list" pT] X.env = (false, eval (.Name "list" pT) X.env) :: starEach [] X.env := by rfl) (hpl : (backTo pos (starEach [.Name "list" pT] X.env)).any (·.1) = false := by rfl) :
    PE X (.Call (.Name "isinstance" p) [a, .Name "list" pT] [] pos) (tD Z Γ 3 (.bl (isLstD da))) :=
  let ⟨_, ht⟩ := knd_ty hk
  d_isi hm ha hT ht (kb_list ht) (by decide +kernel) hgT (by decide) (by decide) hg he he2 hpl
theorem d_isTup {ma : Nat} {da : D} {pT p : Pos} (hm : X.mg "isinstance" = none) (ha : PE X a (tD Z Γ ma da)) (hT : X.mg "tuple" = none) (hk : knd da = true := by rfl) (hg : Gl X "isinstance" := by rfl) (hgT : Gl X "tuple" := by rfl)
    (he : starEach [a, .Name "tuple" pT] X.env = (false, eval a X.env) :: starEach [.Name "tuple" pT] X.env := by rfl) (he2 : starEach [.Name "tuple" pT] X.env = (false, eval (.Name "tuple" pT) X.env) :: starEach [] X.env := by rfl) (hpl : (backTo pos (starEach [.Name "tuple" pT] X.env)).any (·.1) = false := by rfl) :
    PE X (.Call (.Name "isinstance" p) [a, .Name "tuple" pT] [] pos) (tD Z Γ 3 (.bl (isTupD da))) :=
  let ⟨_, ht⟩ := knd_ty hk
  d_isi hm ha hT ht (kb_tuple ht) (by decide +kernel) hgT (by decide) (by decide) hg he he2 hpl
theorem d_isInt {ma : Nat} {da : D} {pT p : Pos} (hm : X.mg "isinstance" = none) (ha : PE X a (tD Z Γ ma da)) (hT : X.mg "int" = none) (hk : knd da = true := by rfl) (hg : Gl X "isinstance" := by rfl) (hgT : Gl X "int" := by rfl)
    (he : starEach [a, .Name "int" pT] X.env = (false, eval a X.env) :: starEach [.Name "int" pT] X.env := by rfl) (he2 : starEach [.Name "int" pT] X.env = (false, eval (.Name "int" pT) X.env) :: starEach [] X.env := by rfl) (hpl : (backTo pos (starEach [.Name "int" pT] X.env)).any (·.1) = false := by rfl) :
    PE X (.Call (.Name "isinstance" p) [a, .Name "int" pT] [] pos) (tD Z Γ 3 (.bl (isIntD da))) :=
  let ⟨_, ht⟩ := knd_ty hk
  d_isi hm ha hT ht (kb_int ht) (by decide +kernel) hgT (by decide) (by decide) hg he he2 hpl
theorem d_isBool {ma : Nat} {da : D} {pT p : Pos} (hm : X.mg "isinstance" = none) (ha : PE X a (tD Z Γ ma da)) (hT : X.mg "bool" = none) (hk : knd da = true := by rfl) (hg : Gl X "isinstance" := by rfl) (hgT : Gl X "bool" := by rfl)
    (he : starEach [a, .Name "bool" pT] X.env = (false, eval a X.env) :: starEach [.Name "bool" pT] X.env := by rfl) (he2 : starEach [.Name "bool" pT] X.env = (false, eval (.Name "bool" pT) X.env) :: starEach [] X.env := by rfl) (hpl : (backTo pos (starEach [.Name "bool" pT] X.env)).any (·.1) = false := by rfl) :
    PE X (.Call (.Name "isinstance" p) [a, .Name "bool" pT] [] pos) (tD Z Γ 3 (.bl (isBlD da))) :=
  let ⟨_, ht⟩ := knd_ty hk
  d_isi hm ha hT ht (kb_bool ht) (by decide +kernel) hgT (by decide) (by decide) hg he he2 hpl
theorem d_isStr {ma : Nat} {da : D} {pT p : Pos} (hm : X.mg "isinstance" = none) (ha : PE X a (tD Z Γ ma da)) (hT : X.mg "str" = none) (hk : knd da = true := by rfl) (hg : Gl X "isinstance" := by rfl) (hgT : Gl X "str" := by rfl)
    (he : starEach [a, .Name "str" pT] X.env = (false, eval a X.env) :: starEach [.Name "str" pT] X.env := by rfl) (he2 : starEach [.Name "str" pT] X.env = (false, eval (.Name "str" pT) X.env) :: starEach [] X.env := by rfl) (hpl : (backTo pos (starEach [.Name "str" pT] X.env)).any (·.1) = false := by rfl) :
    PE X (.Call (.Name "isinstance" p) [a, .Name "str" pT] [] pos) (tD Z Γ 3 (.bl (isStrD da))) :=
  let ⟨_, ht⟩ := knd_ty hk
  d_isi hm ha hT ht (kb_str ht) (by decide +kernel) hgT (by decide) (by decide) hg he he2 hpl
end
end DL

set_option Elab.async false
set_option linter.all false
set_option maxRecDepth 100000
/-! DL18: the law's own start; slots dropped. -/
namespace DL
open PySem L2
section
variable {X : Cx} {Z : Fr} {H H' : Hp} {σ : L2.St} {Γ : List SV} {T : Tb} {pos : Pos} {rest : List Stmt} {E : Ends}
def anyAt (Γ : List SV) (is : List Nat) : List SV := is.foldl (fun Γ i => Γ.set i .any) Γ
theorem Holds.drops (h : Holds Z σ H Γ) : ∀ is : List Nat, Holds Z σ H (anyAt Γ is) := by
  intro is
  induction is generalizing Γ with
  | nil => exact h
  | cons i is ih => exact ih (h.drop i)
/-- the law's start: tables, nothing known of the slots -/
theorem holds_law {T : Tb} {N : List Str} {a : Addr} (t : LamX.Tabs T H) (hN : 1 ≤ N.length) : Holds (frT T H) (L2.start N [.ref a]) H (.raw (.ref a) :: List.replicate (N.length - 1) .any) := by
  have hl : (L2.start N [V.ref a]).length = N.length := by
    unfold L2.start
    simp; omega
  have h := (holds_startT (N := N) (vs := []) (ds := []) t .nil (List.replicate N.length .any) (Nat.zero_le _) (by simp)).raw 0 (.ref a)
  have e1 : (L2.start N []).set 0 (some (.ref a)) = L2.start N [.ref a] := by
    unfold L2.start
    cases N with
    | nil => simp at hN
    | cons x N => simp [List.replicate_succ]
  have e2 : (List.replicate N.length SV.any).set 0 (.raw (.ref a)) = .raw (.ref a) :: List.replicate (N.length - 1) .any := by
    cases N with
    | nil => simp at hN
    | cons x N => simp [List.replicate_succ]
  rw [e1, e2] at h
  exact h
/-- x = x[:63], the script -/
theorem w_script {a : Addr} {ns : List Int} {x : Str} {p p1 p2 p3 p4 : Pos} {jj} (h : Holds Z σ H Γ) (h0 : Γ[0]? = some (.raw (.ref a))) (hs : SqL X.K H a (ns.map V.int)) (hn : ns.length ≤ 63) (k : ∀ σ' H', Ex H H' → Holds Z σ' H' (Γ.set 0 (.dat 2 (dI ns))) → wp X rest E σ' H')
    (nd : X.N.Nodup) (hi : X.N[0]? = some x := by rfl) (hx : Loc X.env.scope x := by first | exact .inl rfl | exact .inr rfl) (hv : Vis X.env.scope x := by first | exact Or.inl rfl | exact Or.inr (Or.inl rfl) | exact Or.inr (Or.inr rfl)) (hf : X.fn x = true ∨ X.env.scope.names.lookup x = some .local := by first | exact .inl rfl | exact .inr rfl)
    (hdb : (x == ("__debug__" : Str)) = false := by decide) (hcd : (x == ("__classdict__" : Str)) = false := by decide)
    (hsw : swapsWith (.Subscript (.Name x p1) (.Slice none (some (.Constant (.int 63) jj p2)) none p3) p4) (some (.Name x p)) pos.line X.env = pure false := by rfl) :
    wp X (.Assign [.Name x p] (.Subscript (.Name x p1) (.Slice none (some (.Constant (.int 63) jj p2)) none p3) p4) pos :: rest) E σ H :=
  wp_cons (ps_asg (pe_slice sl_list (pe_var hi hv hdb hcd) po_none (po_some pe_int)) (pg_name nd hi hx hf) hsw) (by
    have hl : 0 < σ.length := by rw [h.len]; exact (List.getElem?_eq_some_iff.mp h0).1
    have hv0 := h.ok 0 _ _ (List.getElem?_eq_getElem hl) h0
    refine ⟨.ref a, by rw [List.getElem?_eq_getElem hl, hv0], 63, rfl, a, ns.map V.int, rfl, hs, fun p hp => ?_⟩
    have e : cutV (ns.map V.int) none (some 63) = ns.map V.int := by
      unfold cutV
      rw [HT.sIx_none, show (some (63 : Int)) = some ((63 : Nat) : Int) from rfl, HT.sIx_nat, Nat.sub_zero, List.drop_zero, List.take_of_length_le]
      rw [List.length_map]; omega
    rw [e]
    have ex : Ex H (upd H p (.lst (ns.map V.int))) := Ex.new hp
    exact k _ _ ex ((h.grow ex).dat 0 (.lst (rg_new (m := 2) h.dom h.h0x h.h0x hp) (RepL.ints ns))))
theorem i_rangeN {a tg : Expr} {ma n : Nat} {p : Pos} (hm : X.mg "range" = none) (ha : PE X a (tD Z Γ ma (.int (n : Int)))) (h : n ≤ 1000000) (hg : Gl X "range" := by rfl) (hs : starEach [a] X.env = (false, eval a X.env) :: starEach [] X.env := by rfl) (hs2 : starEach [a] X.env = [(false, eval a X.env)] := by rfl) :
    PI X tg (.Call (.Name "range" p) [a] [] pos) (tI Z Γ 3 (rng 0 n)) := by
  have e : rng 0 n = rng 0 ((n : Int)).toNat := by rw [Int.toNat_natCast]
  rw [e]
  exact i_range1 hm ha (by omega) (by omega) hg hs hs2
end
end DL

set_option Elab.async false
set_option linter.all false
set_option maxRecDepth 100000
/-! HD: from the head's facts to the text's defs. -/
namespace DL
open PySem L2
section
variable {K : PySem.W.Frag} {h : Heap} {mg : Str → Option Value} {fa : List He.Fa} {fn : List He.DefD}
theorem code_of {x qual : Str} {params : Arguments} {body : List Stmt} {scope : Scope} {p : Str × Option Str} {fd : FuncData} (F : FunD K x qual params body scope [] [] (He.fAd K p) fd) : fd.code = .ref (He.codeOf K p) := by
  obtain ⟨oc, od, dV, kV, doc, pm, an, cdv, ct, osl, e, l, c, _⟩ := F.ex
  obtain ⟨c', hc⟩ := He.codeIn_ref c
  have e2 : fd.code = .ref c' := by rw [e]; exact hc
  rw [e2, He.codeOf_eq l e2]
theorem dfn_of {x : Str} {st : Stmt} {ps : List Str} (X : K.In h) (G : h.Ns mainGlobals mg) (c : He.SaysD fa fn K) (i j : Nat) (hd : fn[i]? = some ⟨(x, none), x, x, defArgs st, defBody st, defScope st, [], []⟩) (hg : fa[j]? = some (.glo x))
    (hb : ∀ (kV doc pm : Value) (an : Option Addr) (cdv ct : Value) (us : List Value), us.length = ps.length → bindArgs (PySem.W.fnOf x x (defArgs st) (defBody st) (defScope st) .none kV doc pm an cdv ct) ⟨us, []⟩ = pure (ps.zip us)) :
    ∃ D : Dfn K mg x st ps, D.f = He.ga K x ∧ D.fd.code = .ref (He.codeOf K (x, none)) ∧ ∀ (s : Shared) (us : List Value), us.length = ps.length → BindsTo s D.fd ⟨us, []⟩ (ps.zip us) := by
  obtain ⟨fd, F⟩ := c.def_ i hd
  exact ⟨⟨He.ga K x, fd, He5.fun_of F, He.glo_ok X G (c.fact j hg), F.bindsN hb⟩, rfl, code_of F, fun s us hl => F.bindsA hb s us hl⟩
theorem excx_of {x : Str} (X : K.In h) (G : h.Ns mainGlobals mg) (c : He.SaysD fa fn K) (i j : Nat) (hg : fa[i]? = some (.glo x)) (he : fa[j]? = some (.exc x)) : ∃ e : ExcX K mg x, e.C = He.ga K x := by
  obtain ⟨h1, h2, h3, h4⟩ := He.exc_ok (c.fact j he)
  exact ⟨⟨He.ga K x, He.glo_ok X G (c.fact i hg), h1, h2, h3, h4⟩, rfl⟩
/-- what isinstance asks of a class of exceptions -/
def excB (K : PySem.W.Frag) (D : Addr) : Bool :=
  He.eqO (PySem.W.findIn K (.ref D) "__getattribute__") (some (some (.builtin "BaseException.__getattribute__"))) && (He.eqO (PySem.W.findIn K (.ref D) "__getattr__") (some none) && (decide (PySem.W.subIn K (.ref D) (.type "BaseException") = some true) && (PySem.W.hasDictIn K D &&
    (He.eqO (PySem.W.findIn K (.ref D) "__class__") (some (some (.builtin "object.__class__"))) && (He.eqO (PySem.W.specialIn K (.builtin "object.__class__") "__get__") (some (some (.builtin "getset_descriptor.__get__"))) && (decide (PySem.W.takesIn K (.builtin "object.__class__") = some true) && decide (PySem.W.mroIn K D (.type "object") = some true)))))))
theorem excB_ok {D : Addr} (h : excB K D = true) : ExcC K D := by
  obtain ⟨h1, h⟩ := He.ba h
  obtain ⟨h2, h⟩ := He.ba h
  obtain ⟨h3, h⟩ := He.ba h
  obtain ⟨h4, h⟩ := He.ba h
  obtain ⟨h5, h⟩ := He.ba h
  obtain ⟨h6, h⟩ := He.ba h
  obtain ⟨h7, h8⟩ := He.ba h
  exact ⟨He.eqO_ok h1, He.eqO_ok h2, of_decide_eq_true h3, h4, He.eqO_ok h5, He.eqO_ok h6, of_decide_eq_true h7, of_decide_eq_true h8⟩
def kitQ (K : PySem.W.Frag) (A B : Addr) (b : Bool) : Bool := decide (PySem.W.kitOne K (.ref A) (.ref B) = some b)
theorem kitQ_ok {A B : Addr} {b : Bool} (h : kitQ K A B b = true) : PySem.W.kitOne K (.ref A) (.ref B) = some b := of_decide_eq_true h
def exmQ (K : PySem.W.Frag) (A B : Addr) (b : Bool) : Bool := decide (PySem.W.exmOne K (.ref A) (.ref B) = some b)
theorem exmQ_ok {A B : Addr} {b : Bool} (h : exmQ K A B b = true) : PySem.W.exmOne K (.ref A) (.ref B) = some b := of_decide_eq_true h
end
end DL

set_option Elab.async false
set_option linter.all false
set_option maxRecDepth 100000
/-! DL19: a list read with its items' region, be it a slot's own. -/
namespace DL
open PySem L2
def svL : SV → Option (Nat × List D)
  | .dat m (.lst ds) => some (min m 2, ds)
  | .own m ds => some (min m 2, ds)
  | _ => none
/-- a list whose items stand in the region of a mode -/
def tL (Z : Fr) (Γ : List SV) (m : Nat) (ds : List D) : TE := fun σ H Q => Holds Z σ H Γ ∧ ∀ a vs H', Ex H H' → H' a = some (.lst vs) → RepL (rg m (Z.O σ Γ) Z.h0 H H') vs ds → Q (.ref a) H'
section
variable {X : Cx} {e a b : Expr} {pos : Pos} {Z : Fr} {Γ : List SV} {m ma mb i : Nat} {d da db : D} {ds es xs ys : List D}
theorem l_d (h : PE X e (tD Z Γ m (.lst ds))) : PE X e (tL Z Γ m ds) := pe_imp h fun σ H Q q => ⟨q.1, fun v H' ex r => by
  cases r with
  | lst h1 h2 => exact q.2 _ _ H' ex (rg_le _ _ h1) h2⟩
theorem rg_same {m : Nat} {O : List Addr} {H0 H : Hp} (h : m ≤ 2) {Hs : Hp} : rg m O H0 Hs H = rg m O H0 H0 H := by
  match m, h with
  | 0, _ => rfl
  | 1, _ => rfl
  | 2, _ => rfl
/-- a name of the def that holds a list -/
theorem l_x (i : Nat) {x : Str} {m : Nat} {ds : List D} (hΓ : (Γ[i]?).bind svL = some (m, ds)) (hN : X.N[i]? = some x := by rfl) (hv : Vis X.env.scope x := by first | exact Or.inl rfl | exact Or.inr (Or.inl rfl) | exact Or.inr (Or.inr rfl))
    (hd : (x == ("__debug__" : Str)) = false := by decide) (hcd : (x == ("__classdict__" : Str)) = false := by decide) : PE X (.Name x pos) (tL Z Γ m ds) := by
  cases q : Γ[i]? with
  | none => rw [q] at hΓ; cases hΓ
  | some sv =>
    rw [q] at hΓ
    cases sv with
    | any => cases hΓ
    | raw v => cases hΓ
    | dat k d' =>
      cases d' with
      | lst es =>
        have e := Option.some.inj hΓ
        cases e
        exact l_d (d_x i (by rw [q]; rfl) hN hv hd hcd)
      | _ => cases hΓ
    | own k es =>
      have e := Option.some.inj hΓ
      cases e
      refine pe_imp (pe_var hN hv hd hcd) fun σ H Q ⟨i', q'⟩ => ?_
      obtain ⟨l, vs, e1, e2, r⟩ := own_at i' q
      refine ⟨.ref l, e1, q' l vs H (Ex.refl H) e2 ?_⟩
      rw [rg_same (Nat.min_le_right _ _)]
      exact r.mono (rg_down (Nat.min_le_left _ _) (Ex.refl _))
/-- list(xs) -/
theorem n_listL (hm : X.mg "list" = none) (ha : PE X a (tL Z Γ ma ds)) (hg : Gl X "list" := by rfl) (he : starEach [a] X.env = (false, eval a X.env) :: starEach [] X.env := by rfl) {p : Pos} (hpl : (backTo pos (starEach [] X.env)).any (·.1) = false := by rfl) : PE X (.Call (.Name "list" p) [a] [] pos) (tN Z Γ ma ds) :=
  pe_imp (pe_callTy call_list_of hg hm (by decide +kernel) (pa_cons ha pa_nil he) (by decide) (by decide) he hpl) fun σ H Q h => ⟨h.1, fun l vs H1 e1 h1 h2 =>
    ⟨_, _, rfl, .inl (.of h1), fun p hl => h.2 p _ _ (e1.trans (Ex.new hl)) (Ex.free e1 hl) upd_same (h2.mono (rg_ex (fun _ z => .inl z) (Ex.refl _) (Ex.new hl)))⟩⟩
/-- xs[k] -/
theorem d_ixLL {k : Int} (ha : PE X a (tL Z Γ ma ds)) (hb : PE X b (tD Z Γ mb (.int k))) (hx : (ixN ds.length k).bind (fun j => ds[j]?) = some d) (hs : PlainIx b := by exact fun _ _ => rfl) : PE X (.Subscript a b pos) (tD Z Γ ma d) :=
  pe_imp (pe_ix ix_list ha hb hs) fun σ H Q h => ⟨h.1, fun l vs H1 e1 h1 h2 => ⟨h.1.grow e1, fun y H2 e2 r => by
    cases r
    obtain ⟨v, e3, r3⟩ := atI_rep h2 hx
    exact ⟨l, vs, k, v, rfl, rfl, .of (e2 _ _ h1), e3, h.2 v H2 (e1.trans e2) (r3.mono (rg_ex (fun _ z => .inl z) (Ex.refl _) e2))⟩⟩⟩
/-- len(xs) -/
theorem d_lenL (hm : X.mg "len" = none) (ha : PE X a (tL Z Γ ma ds)) (hg : Gl X "len" := by rfl) (he : starEach [a] X.env = (false, eval a X.env) :: starEach [] X.env := by rfl) {p : Pos} (hpl : (backTo pos (starEach [] X.env)).any (·.1) = false := by rfl) : PE X (.Call (.Name "len" p) [a] [] pos) (tD Z Γ 3 (.int (ds.length : Int))) :=
  pe_imp (pe_callB call_len_seq hg hm PySem.boot_len (pa_cons ha pa_nil he) (by decide) (by decide) he hpl) fun σ H Q h => ⟨h.1, fun l vs H1 e1 h1 h2 =>
    ⟨_, _, rfl, .inl (.of h1), by rw [h2.length]; exact h.2 _ H1 e1 (.int _)⟩⟩
/-- sorted(xs) -/
theorem n_sortedL (hu : X.A.units + 64 < cLine) (hm : X.mg "sorted" = none) (ha : PE X a (tL Z Γ ma ds)) (hs : Srtb ds) (hg : Gl X "sorted" := by rfl) (he : starEach [a] X.env = (false, eval a X.env) :: starEach [] X.env := by rfl) {p : Pos} (hpl : (backTo pos (starEach [] X.env)).any (·.1) = false := by rfl) : PE X (.Call (.Name "sorted" p) [a] [] pos) (tN Z Γ ma (sortD ds)) :=
  pe_imp (pe_callB (cr_sortedD hu) hg hm (by decide +kernel) (pa_cons ha pa_nil he) (by decide) (by decide) he hpl) fun σ H Q h => ⟨h.1, fun l ws H1 e1 h1 h2 => by
    obtain ⟨z1, z2, z3⟩ := h2.zip
    refine ⟨l, ws.zip ds, rfl, by rw [z1]; exact .of h1, fun b hb => ((z3 b hb).1.mono rg_le).dp (pln_of_mem hs.p _ (z3 b hb).2), by rw [z2]; exact hs, fun p hp => ?_⟩
    refine h.2 p _ _ (e1.trans (Ex.new hp)) (Ex.free e1 hp) upd_same ?_
    have e : sortD ds = ((ws.zip ds).mergeSort leP).map (·.2) := by
      have e1 : ((ws.zip ds).mergeSort leP).map (·.2) = ((ws.zip ds).map (·.2)).mergeSort leD := List.map_mergeSort (r := leP) (s := leD) (f := fun x : V × D => x.2) fun x _ y _ => rfl
      rw [e1, z2]; rfl
    rw [e]
    exact RepL.of_pairs fun p' hp' => (z3 p' (List.mem_mergeSort.mp hp')).1.mono (rg_ex (fun _ z => .inl z) (Ex.refl _) (Ex.new hp))⟩
/-- tuple(xs) -/
theorem d_tuple (hm : X.mg "tuple" = none) (ha : PE X a (tD Z Γ ma (.lst ds))) (hg : Gl X "tuple" := by rfl) (he : starEach [a] X.env = (false, eval a X.env) :: starEach [] X.env := by rfl) {p : Pos} (hpl : (backTo pos (starEach [] X.env)).any (·.1) = false := by rfl) : PE X (.Call (.Name "tuple" p) [a] [] pos) (tD Z Γ (min ma 3) (.tup ds)) :=
  d_ct (ds := [.lst ds]) call_tuple_of hm (fun H R vs Q ex r q => by
    cases r with
    | cons r1 r2 =>
      cases r2
      cases r1 with
      | lst h1 h2 =>
        refine ⟨_, _, rfl, .inl ⟨.of (ex _ _ h1), fun l hl => q _ _ (Ex.new hl) fun R' k1 k2 => .tup (k2 _ _ ?_) (h2.mono k1)⟩⟩
        exact reg_has (by simp) hl upd_same trivial) (a_cons ha a_nil he) (by decide +kernel) hg (by decide) (by decide) he hpl
/-- .. of scalars: all new -/
theorem d_tupleS (hm : X.mg "tuple" = none) (ha : PE X a (tD Z Γ ma (.lst ds))) (hs : scL ds = true) (hg : Gl X "tuple" := by rfl) (he : starEach [a] X.env = (false, eval a X.env) :: starEach [] X.env := by rfl) {p : Pos} (hpl : (backTo pos (starEach [] X.env)).any (·.1) = false := by rfl) : PE X (.Call (.Name "tuple" p) [a] [] pos) (tD Z Γ 3 (.tup ds)) :=
  pe_imp (pe_callTy call_tuple_of hg hm (by decide +kernel) (a_cons ha a_nil he) (by decide) (by decide) he hpl) fun σ H Q h => ⟨h.1, fun vs H1 e1 r => by
    cases r with
    | cons r1 r2 =>
      cases r2
      cases r1 with
      | lst h1 h2 =>
        have h' := h.1.grow e1
        exact ⟨_, _, rfl, .inl ⟨.of (rg_le _ _ h1), fun l hl => h.2 _ _ (e1.trans (Ex.new hl)) (.tup (rg_new h'.dom h'.h0x e1 hl) (scL_rep h2 hs _))⟩⟩⟩
/-- list(a tuple of scalars): all new -/
theorem d_listTS (hm : X.mg "list" = none) (ha : PE X a (tD Z Γ ma (.tup ds))) (hs : scL ds = true) (hg : Gl X "list" := by rfl) (he : starEach [a] X.env = (false, eval a X.env) :: starEach [] X.env := by rfl) {p : Pos} (hpl : (backTo pos (starEach [] X.env)).any (·.1) = false := by rfl) : PE X (.Call (.Name "list" p) [a] [] pos) (tD Z Γ 3 (.lst ds)) :=
  pe_imp (pe_callTy call_list_of hg hm (by decide +kernel) (a_cons ha a_nil he) (by decide) (by decide) he hpl) fun σ H Q h => ⟨h.1, fun vs H1 e1 r => by
    cases r with
    | cons r1 r2 =>
      cases r2
      cases r1 with
      | tup h1 h2 =>
        have h' := h.1.grow e1
        exact ⟨_, _, rfl, .inr (.of (rg_le _ _ h1)), fun l hl => h.2 _ _ (e1.trans (Ex.new hl)) (.lst (rg_new h'.dom h'.h0x e1 hl) (scL_rep h2 hs _))⟩⟩
end
/-! ### classes of the text -/
structure ClsX (K : PySem.W.Frag) (mg : Str → Option Value) (x : Str) where
  C : Addr
  g : mg x = some (.ref C)
  c : Cls K C
  kp : PySem.W.keepIn K (.ref C) = true
structure Mth (K : PySem.W.Frag) (C : Addr) (m qual : Str) (st : Stmt) (ps : List Str) where
  f : Addr
  fd : FuncData
  F : Fun K m qual st f fd
  m : Meth K C m f
  b : Binds K fd ps []
structure Ini (K : PySem.W.Frag) (C : Addr) (qual : Str) (st : Stmt) (ps : List Str) where
  f : Addr
  fd : FuncData
  F : Fun K "__init__" qual st f fd
  mkr : Mk K C f
  b : Binds K fd ps []
end DL

set_option Elab.async false
set_option linter.all false
set_option maxRecDepth 100000
/-! DL20: a hidden list of dicts whose keys are tuples of ints. -/
namespace DL
open PySem L2
abbrev Row : Type := List (List Int × D)
def kI (ns : List Int) : List Key := ns.map Sum.inl
theorem kI_kV (ns : List Int) : (kI ns).map kV = ns.map V.int := by unfold kI; rw [List.map_map]; rfl
theorem kI_inj {a b : List Int} (h : kI a = kI b) : a = b := (List.map_inj_right fun x y e => Sum.inl.inj e).mp h
abbrev dT (ns : List Int) : D := .tup (ns.map D.int)
def rowGet (row : Row) (ns : List Int) : Option D := (row.find? fun p => decide (p.1 = ns)).map (·.2)
theorem rowGet_cons (p : List Int × D) (row : Row) (ns : List Int) : rowGet (p :: row) ns = if p.1 = ns then some p.2 else rowGet row ns := by
  unfold rowGet
  rw [List.find?_cons]
  by_cases h : p.1 = ns
  · rw [if_pos h, decide_eq_true h]; rfl
  · rw [if_neg h, decide_eq_false h]
/-- the dict at d holds the row; its values stand in R -/
def DicAt (R O : Hp) (d : Addr) (row : Row) : Prop := ∃ kvs : List (List Key × V), O d = some (.dT kvs) ∧ kvs.map (·.1) = row.map (fun p => kI p.1) ∧ RepL R (kvs.map (·.2)) (row.map (·.2))
theorem dic_get {R : Hp} (ns : List Int) : ∀ {row : Row} {kvs : List (List Key × V)}, kvs.map (·.1) = row.map (fun p => kI p.1) → RepL R (kvs.map (·.2)) (row.map (·.2)) →
    (rowGet row ns = none → valV kvs (kI ns) = none) ∧ ∀ d, rowGet row ns = some d → ∃ v, valV kvs (kI ns) = some v ∧ Rep R v d
  | [], [], _, _ => ⟨fun _ => rfl, fun d h => by cases h⟩
  | [], _ :: _, h, _ => by cases h
  | _ :: _, [], h, _ => by cases h
  | p :: row, q :: kvs, h, r => by
    have h1 := (List.cons.inj h).1
    have h2 := (List.cons.inj h).2
    cases r with
    | cons r1 r2 =>
      have ih := dic_get ns (row := row) (kvs := kvs) h2 r2
      rw [rowGet_cons]
      have hk : (q.1 = kI ns) ↔ p.1 = ns := ⟨fun e => kI_inj (h1.symm.trans e), fun e => by rw [show q.1 = kI p.1 from h1, e]⟩
      by_cases hp : p.1 = ns
      · rw [if_pos hp]
        have e : valV (q :: kvs) (kI ns) = some q.2 := valV_pos (hk.mpr hp)
        exact And.intro (fun z => by cases z) fun d z => ⟨q.2, e, by cases z; exact r1⟩
      · rw [if_neg hp]
        have e : valV (q :: kvs) (kI ns) = valV kvs (kI ns) := by
          unfold valV
          rw [List.find?_cons, decide_eq_false (fun z => hp (hk.mp z))]
        rw [e]; exact ih
theorem putK_new {kvs : List (List Key × V)} {k : List Key} {v : V} (h : valV kvs k = none) : putK kvs k v = kvs ++ [(k, v)] := by
  unfold putK
  rw [if_neg]
  intro z
  obtain ⟨p, hp, e⟩ := List.any_eq_true.mp z
  unfold valV at h
  rw [Option.map_eq_none_iff, List.find?_eq_none] at h
  exact h p hp e
/-- the table -/
def TabAt (R O : Hp) (l : Addr) (ds : List Addr) (rows : List Row) : Prop := O l = some (.lst (ds.map V.ref)) ∧ ds.length = rows.length ∧ (l :: ds).Nodup ∧ ∀ (i : Nat) (d : Addr) (row : Row), ds[i]? = some d → rows[i]? = some row → DicAt R O d row
def gTb (mt : Nat) (l : Addr) (ds : List Addr) (rows : List Row) : GS where
  as := l :: ds
  m := mt
  P := fun R O => TabAt R O l ds rows
  mono := fun e ⟨h1, h2, h3, h4⟩ => ⟨h1, h2, h3, fun i d row hd hr => by
    obtain ⟨kvs, k1, k2, k3⟩ := h4 i d row hd hr
    exact ⟨kvs, k1, k2, k3.mono e⟩⟩
section
variable {X : Cx} {e a b o kx : Expr} {pos : Pos} {rest : List Stmt} {E : Ends} {σ : L2.St} {H : Hp} {Z : Fr} {Γ : List SV} {m ma mb mt i j k : Nat} {d : D} {l : Addr} {ds : List Addr} {rows : List Row} {row : Row} {ns : List Int}
theorem Holds.tabAt (h : Holds Z σ H Γ) (hg : gTb mt l ds rows ∈ Z.gs) : TabAt (rg mt (Z.O σ Γ) Z.h0 Z.h0 H) (only (l :: ds) H) l ds rows := (h.gok _ hg).2.2
theorem tab_ref {R O : Hp} (t : TabAt R O l ds rows) (hk : k < rows.length) : ds[k]? = some (ds.getD k 0) := by
  have : k < ds.length := by rw [t.2.1]; exact hk
  rw [List.getD_eq_getElem?_getD, List.getElem?_eq_getElem this]; rfl
/-- t[k]: a dict of the table -/
theorem r_row (k : Nat) (hg : gTb mt l ds rows ∈ Z.gs) (he : PE X e (tR Z Γ (.ref l))) (hi : PE X a (tD Z Γ ma (.int (k : Int)))) (hk : k < rows.length) (hs : PlainIx a := by exact fun _ _ => rfl) : PE X (.Subscript e a pos) (tR Z Γ (.ref (ds.getD k 0))) :=
  pe_imp (pe_ix ix_list he hi hs) fun σ H Q h => ⟨h.1, fun H1 e1 => ⟨h.1.grow e1, fun y H2 e2 r => by
    cases r
    have h2 := h.1.grow (e1.trans e2)
    have t := h2.tabAt hg
    have hl := (only_some t.1).2
    have hlen : k < (ds.map V.ref).length := by rw [List.length_map, t.2.1]; exact hk
    refine ⟨l, ds.map V.ref, (k : Int), .ref (ds.getD k 0), rfl, rfl, .of hl, ?_, h.2 H2 (e1.trans e2)⟩
    unfold atI
    rw [ix_nat hlen, Option.bind_some, List.getElem?_map, tab_ref t hk]; rfl⟩⟩
theorem dic_at {H1 : Hp} (h : Holds Z σ H1 Γ) (hg : gTb mt l ds rows ∈ Z.gs) (hr : rows[k]? = some row) : ∃ kvs, H1 (ds.getD k 0) = some (.dT kvs) ∧ kvs.map (·.1) = row.map (fun p => kI p.1) ∧ RepL (rg mt (Z.O σ Γ) Z.h0 Z.h0 H1) (kvs.map (·.2)) (row.map (·.2)) := by
  have t := h.tabAt hg
  obtain ⟨kvs, k1, k2, k3⟩ := t.2.2.2 k _ row (tab_ref t (List.getElem?_eq_some_iff.mp hr).1) hr
  exact ⟨kvs, (only_some k1).2, k2, k3⟩
theorem key_at {H1 : Hp} {v : V} (r : Rep H1 v (dT ns)) : ∃ b, v = .ref b ∧ H1 b = some (.tup ((kI ns).map kV)) := by
  cases r with
  | tup h1 h2 =>
    rw [RepL.ints_inv h2] at h1
    exact ⟨_, rfl, by rw [kI_kV]; exact h1⟩
/-- key not in t[k] -/
theorem t_notInT (hu : X.A.units + 64 < cLine) (k : Nat) (hg : gTb mt l ds rows ∈ Z.gs) (hk : PE X kx (tD Z Γ mb (dT ns))) (ho : PE X o (tR Z Γ (.ref (ds.getD k 0)))) (hr : rows[k]? = some row) (hm : behindInMarks .NotIn o = false := by rfl) : PT X (.Compare kx [.NotIn] [o] pos) (tDT Z Γ (!(rowGet row ns).isSome)) :=
  pt_imp (pt_cmp (pc_dnotin (by omega) hk ho) hm) fun σ H Q h => ⟨h.1, fun v H1 e1 r => ⟨h.1.grow e1, fun H2 e2 => by
    obtain ⟨b, rfl, hb⟩ := key_at (r.mono rg_le)
    have h2 := h.1.grow (e1.trans e2)
    obtain ⟨kvs, k1, k2, k3⟩ := dic_at h2 hg hr
    refine ⟨_, valV kvs (kI ns), rfl, DGet.t k1 (e2 _ _ hb), ⟨_, rfl, ?_⟩⟩
    have q := dic_get ns k2 k3
    have e : (valV kvs (kI ns)).isSome = (rowGet row ns).isSome := by
      cases z : rowGet row ns with
      | none => rw [q.1 z]; rfl
      | some d =>
        obtain ⟨v, hv, _⟩ := q.2 d z
        rw [hv]; rfl
    rw [e]
    exact h.2 H2 (e1.trans e2)⟩⟩
theorem t_inT (hu : X.A.units + 64 < cLine) (k : Nat) (hg : gTb mt l ds rows ∈ Z.gs) (hk : PE X kx (tD Z Γ mb (dT ns))) (ho : PE X o (tR Z Γ (.ref (ds.getD k 0)))) (hr : rows[k]? = some row) (hm : behindInMarks .In o = false := by rfl) : PT X (.Compare kx [.In] [o] pos) (tDT Z Γ (rowGet row ns).isSome) :=
  pt_imp (pt_cmp (pc_din (by omega) hk ho) hm) fun σ H Q h => ⟨h.1, fun v H1 e1 r => ⟨h.1.grow e1, fun H2 e2 => by
    obtain ⟨b, rfl, hb⟩ := key_at (r.mono rg_le)
    have h2 := h.1.grow (e1.trans e2)
    obtain ⟨kvs, k1, k2, k3⟩ := dic_at h2 hg hr
    refine ⟨_, valV kvs (kI ns), rfl, DGet.t k1 (e2 _ _ hb), ⟨_, rfl, ?_⟩⟩
    have q := dic_get ns k2 k3
    have e : (valV kvs (kI ns)).isSome = (rowGet row ns).isSome := by
      cases z : rowGet row ns with
      | none => rw [q.1 z]; rfl
      | some d =>
        obtain ⟨v, hv, _⟩ := q.2 d z
        rw [hv]; rfl
    rw [e]
    exact h.2 H2 (e1.trans e2)⟩⟩
/-- t[k][key] -/
theorem d_getT (hu : X.A.units + 64 < cLine) (k : Nat) (hg : gTb mt l ds rows ∈ Z.gs) (ho : PE X o (tR Z Γ (.ref (ds.getD k 0)))) (hk : PE X kx (tD Z Γ mb (dT ns))) (hr : rows[k]? = some row) (hd : rowGet row ns = some d) (hm2 : mt ≤ 2 := by decide) (hs : NoSl kx := by exact fun _ _ => rfl) : PE X (.Subscript o kx pos) (tD Z Γ mt d) :=
  pe_imp (pe_dget (by omega) ho hk hs) fun σ H Q h => ⟨h.1, fun H1 e1 => ⟨h.1.grow e1, fun v H2 e2 r => by
    obtain ⟨b, rfl, hb⟩ := key_at (r.mono rg_le)
    have h2 := h.1.grow (e1.trans e2)
    obtain ⟨kvs, k1, k2, k3⟩ := dic_at h2 hg hr
    obtain ⟨v, hv, rv⟩ := (dic_get ns k2 k3).2 d hd
    exact ⟨_, v, rfl, by rw [← hv]; exact DGet.t k1 hb, h.2 v H2 (e1.trans e2) (by rw [rg_same hm2]; exact rv)⟩⟩⟩
/-- t[k][key] = e, key not there -/
theorem w_putT {kpos : Pos} (hu : X.A.units + 64 < cLine) (j k : Nat) (hj : Z.gs[j]? = some (gTb mt l ds rows)) (he : PE X e (tD Z Γ ma d)) (ho : PE X o (tR Z Γ (.ref (ds.getD k 0)))) (hk : PE X kx (tD Z Γ mb (dT ns))) (hr : rows[k]? = some row) (hn : rowGet row ns = none) (hl : row.length < 1000000) (h : Holds Z σ H Γ)
    (kk : ∀ H', Holds { Z with gs := Z.gs.set j (gTb mt l ds (rows.set k (row ++ [(ns, d)]))) } σ H' Γ → wp X rest E σ H') (hma : mt ≤ ma := by decide) (hm1 : 1 ≤ mt := by decide) (hm2 : mt ≤ 2 := by decide) (hz : noz Γ = true := by rfl)
    (hs : swapsWith e (some (.Subscript o kx kpos)) pos.line X.env = pure false := by rfl) : wp X (.Assign [.Subscript o kx kpos] e pos :: rest) E σ H :=
  wp_cons (ps_dput (by omega) ho hk he hs) ⟨h, fun v H1 e1 rv => ⟨h.grow e1, fun H2 e2 => ⟨h.grow (e1.trans e2), fun y H3 e3 ry => by
    have hg : gTb mt l ds rows ∈ Z.gs := List.mem_of_getElem? hj
    obtain ⟨b, rfl, hb⟩ := key_at (ry.mono rg_le)
    have e13 := e2.trans e3
    have e03 := e1.trans e13
    have h3 := h.grow e03
    obtain ⟨kvs, k1, k2, k3⟩ := dic_at h3 hg hr
    have hv := (dic_get ns k2 k3).1 hn
    have hlen : kvs.length < sizeLine := by
      have e : kvs.length = row.length := by
        have := congrArg List.length k2
        rw [List.length_map, List.length_map] at this; exact this
      rw [e]; exact Nat.lt_of_lt_of_le hl (by decide)
    refine ⟨_, _, rfl, DPut.t k1 hb hlen, ?_⟩
    rw [putK_new hv]
    have t := h3.tabAt hg
    have hkl := (List.getElem?_eq_some_iff.mp hr).1
    have hdk := tab_ref t hkl
    have hdm : ds.getD k 0 ∈ l :: ds := List.mem_cons_of_mem _ (List.mem_of_getElem? hdk)
    have hx : ds.getD k 0 ∈ Z.ex := (h3.gok _ hg).1 _ hdm
    have hxO : ds.getD k 0 ∈ Z.O σ Γ := List.mem_append_left _ hx
    have hne : l ≠ ds.getD k 0 := fun z => (List.nodup_cons.mp t.2.2.1).1 (by rw [z]; exact List.mem_of_getElem? hdk)
    have up : Ex (rg mt (Z.O σ Γ) Z.h0 Z.h0 H3) (rg mt (Z.O σ Γ) Z.h0 Z.h0 (upd H3 (ds.getD k 0) (.dT (kvs ++ [(kI ns, v)])))) := rg_mut hm1 hxO
    have rv' : Rep (rg mt (Z.O σ Γ) Z.h0 Z.h0 H3) v d := (by have q := rv.mono (rg_down hma h.h0x); rw [rg_same hm2] at q; exact q : Rep (rg mt (Z.O σ Γ) Z.h0 Z.h0 H1) v d).mono (rg_ex (fun _ z => .inl z) (Ex.refl _) e13)
    have new : GOk Z.h0 (Z.O σ Γ) Z.ex (upd H3 (ds.getD k 0) (.dT (kvs ++ [(kI ns, v)]))) (gTb mt l ds (rows.set k (row ++ [(ns, d)]))) := by
      refine ⟨(h3.gok _ hg).1, hm1, ?_, by rw [List.length_set]; exact t.2.1, t.2.2.1, fun i' d' row' hd' hr' => ?_⟩
      · show only (l :: ds) _ l = _
        rw [only_at List.mem_cons_self, upd_ne hne]
        exact (only_some t.1).2
      · have hdi : d' ∈ l :: ds := List.mem_cons_of_mem _ (List.mem_of_getElem? hd')
        by_cases hik : k = i'
        · subst hik
          rw [hdk] at hd'
          cases hd'
          rw [List.getElem?_set_self hkl] at hr'
          cases hr'
          exact ⟨kvs ++ [(kI ns, v)], by show only (l :: ds) _ _ = _; rw [only_at hdi, upd_same], by rw [List.map_append, List.map_append, k2]; rfl, by rw [List.map_append, List.map_append]; exact (k3.mono up).append (.cons (rv'.mono up) .nil)⟩
        · rw [List.getElem?_set_ne hik] at hr'
          obtain ⟨kvs', q1, q2, q3⟩ := t.2.2.2 i' d' row' hd' hr'
          have hnd := (List.nodup_cons.mp t.2.2.1).2
          have hne' : d' ≠ ds.getD k 0 := fun z => by
            have h1 : i' < ds.length := (List.getElem?_eq_some_iff.mp hd').1
            rw [z] at hd'
            have h2 : ds[i']? = ds[k]? := hd'.trans hdk.symm
            exact hik ((List.getElem?_inj h1 hnd).mp h2).symm
          exact ⟨kvs', by show only (l :: ds) _ _ = _; rw [only_at hdi, upd_ne hne']; exact (only_some q1).2, q2, q3.mono up⟩
    have hjl : j < Z.gs.length := (List.getElem?_eq_some_iff.mp hj).1
    refine kk _ (h3.turn hx hz (fun g hgm => ?_) ?_)
    · obtain ⟨n, hn', rfl⟩ := List.mem_iff_getElem.mp hgm
      rw [List.getElem_set]
      split
      · exact new
      · rename_i hjn
        rw [List.length_set] at hn'
        refine (h3.gok _ (List.getElem_mem hn')).mut hxO fun w => ?_
        have ap := h3.gap
        have hjg : Z.gs[j] = gTb mt l ds rows := by
          have := List.getElem?_eq_getElem hjl
          rw [hj] at this; exact (Option.some.inj this).symm
        rcases Nat.lt_or_gt_of_ne hjn with q | q
        · have z := List.pairwise_iff_getElem.mp ap j n hjl hn' q
          rw [hjg] at z
          exact z _ hdm w
        · have z := List.pairwise_iff_getElem.mp ap n j hn' hjl q
          rw [hjg] at z
          exact z _ w hdm
    · have ap := h3.gap
      have hjg : Z.gs[j] = gTb mt l ds rows := by
        have := List.getElem?_eq_getElem hjl
        rw [hj] at this; exact (Option.some.inj this).symm
      refine List.pairwise_iff_getElem.mpr fun n1 n2 q1 q2 q => ?_
      rw [List.length_set] at q1 q2
      have z := List.pairwise_iff_getElem.mp ap n1 n2 q1 q2 q
      rw [List.getElem_set, List.getElem_set]
      split
      · rename_i w1
        subst w1
        rw [hjg] at z
        split
        · rename_i w2; omega
        · exact z
      · split
        · rename_i w2
          subst w2
          rw [hjg] at z
          exact z
        · exact z⟩⟩⟩
end
end DL

set_option Elab.async false
set_option linter.all false
set_option maxRecDepth 100000
/-! DL21: hidden tables made, walked, handed over. -/
namespace DL
open PySem L2
/-- told of no tuple -/
def GS.ntu (g : GS) : Prop := ∀ R O, g.P R O → ∀ a ∈ g.as, ∀ xs, O a ≠ some (.tup xs)
def NoTu (Z : Fr) : Prop := ∀ a ∈ Z.ex, ∃ g ∈ Z.gs, a ∈ g.as ∧ g.ntu
theorem gTb_ntu {mt : Nat} {l : Addr} {ds : List Addr} {rows : List Row} : (gTb mt l ds rows).ntu := fun R O ⟨h1, h2, h3, h4⟩ a ha xs e => by
  rcases List.mem_cons.mp ha with z | z
  · rw [z, h1] at e; cases e
  · obtain ⟨i, hi, rfl⟩ := List.mem_iff_getElem.mp z
    obtain ⟨kvs, k1, _⟩ := h4 i ds[i] rows[i] (List.getElem?_eq_getElem hi) (List.getElem?_eq_getElem (by rw [← h2]; exact hi))
    rw [k1] at e; cases e
theorem gTab_ntu {T : Tb} : (gTab T).ntu := fun R O h a ha xs e => by
  obtain ⟨p, hp, rfl⟩ := List.mem_map.mp ha
  obtain ⟨ps, h1, _⟩ := h p hp
  rw [h1] at e; cases e
theorem NoTu.nil {Z : Fr} (h : Z.ex = []) : NoTu Z := fun a ha => by rw [h] at ha; cases ha
section
variable {Z : Fr} {H H' : Hp} {σ : L2.St} {Γ : List SV}
theorem Holds.noTu (h : Holds Z σ H Γ) (n : NoTu Z) : ∀ a ∈ Z.O σ Γ, ∀ xs, H a ≠ some (.tup xs) := fun a ha xs e => by
  rcases List.mem_append.mp ha with z | z
  · obtain ⟨g, hg, hm, hn⟩ := n a z
    exact hn _ _ (h.gok g hg).2.2 a hm xs (by rw [only_at hm]; exact e)
  · obtain ⟨vs, q⟩ := h.own_at z
    rw [q] at e; cases e
/-- H without tuples -/
def wt (H : Hp) : Hp := fun a => match H a with
  | some (.tup _) => none
  | o => o
theorem wt_at {H : Hp} {a : Addr} {o : HO} (h : H a = some o) (k : ∀ xs, o ≠ .tup xs) : wt H a = some o := by
  unfold wt
  rw [h]
  cases o <;> first | rfl | exact absurd rfl (k _)
theorem wt_some {H : Hp} {a : Addr} {o : HO} (h : wt H a = some o) : H a = some o ∧ ∀ xs, o ≠ .tup xs := by
  unfold wt at h
  split at h
  · cases h
  · rename_i hn
    exact ⟨h, fun xs e => hn xs (by rw [h, e])⟩
theorem wt_le {H : Hp} : Ex (wt H) H := fun _ _ h => (wt_some h).1
theorem wt_none {H : Hp} {a : Addr} (h : wt H a = none) : H a = none ∨ ∃ xs, H a = some (.tup xs) := by
  unfold wt at h
  split at h
  · rename_i xs e; exact .inr ⟨xs, e⟩
  · exact .inl h
/-- the tuples of H stay -/
def gStay (H : Hp) : GS where
  as := []
  m := 1
  P := fun R _ => ∀ a xs, H a = some (.tup xs) → R a = some (.tup xs)
  mono := fun e h a xs z => e _ _ (h a xs z)
abbrev frS (H : Hp) : Fr := { h0 := wt H, gs := [gStay H] }
theorem holds_startS {N : List Str} {vs : List V} {ds : List D} {H : Hp} (r : RepL H vs ds) (Γ : List SV) (hN : ds.length ≤ N.length) (hΓ : Γ = ds.map (SV.dat 1) ++ List.replicate (N.length - ds.length) .any) : Holds (frS H) (L2.start N vs) H Γ := by
  have h := holds_start r Γ hN hΓ
  have no : owns (L2.start N vs) Γ = [] := by
    apply List.eq_nil_iff_forall_not_mem.mpr
    intro a ha
    obtain ⟨i, m, es, q1, q2⟩ := mem_owns.mp ha
    rw [hΓ] at q2
    by_cases hi : i < ds.length
    · rw [List.getElem?_append_left (by rw [List.length_map]; exact hi), List.getElem?_map, List.getElem?_eq_getElem hi] at q2
      cases q2
    · rw [List.getElem?_append_right (by rw [List.length_map]; omega), List.getElem?_replicate] at q2
      split at q2 <;> cases q2
  refine ⟨fun B hB => ?_, fun a ha => absurd ha (by simp), h.len, h.nd, fun i o sv e1 e2 => ?_, fun g hg => ?_, List.pairwise_singleton _ _, fun B hB => absurd hB (by simp)⟩
  · rcases hB with z | z
    · rw [z]
      exact ⟨wt_le, fun l hl => by
        rw [show (frS H).O (L2.start N vs) Γ = [] from no] at hl; cases hl⟩
    · cases z
  · have q := h.ok i o sv e1 e2
    cases sv with
    | any => trivial
    | raw v => exact q
    | dat m d =>
      obtain ⟨v, q1, q2⟩ := q
      refine ⟨v, q1, ?_⟩
      rw [hΓ] at e2
      have hm : m = 1 := by
        by_cases hi : i < ds.length
        · rw [List.getElem?_append_left (by rw [List.length_map]; exact hi), List.getElem?_map, List.getElem?_eq_getElem hi] at e2
          cases e2; rfl
        · rw [List.getElem?_append_right (by rw [List.length_map]; omega), List.getElem?_replicate] at e2
          split at e2 <;> cases e2
      subst hm
      exact q2
    | own m es =>
      rw [hΓ] at e2
      by_cases hi : i < ds.length
      · rw [List.getElem?_append_left (by rw [List.length_map]; exact hi), List.getElem?_map, List.getElem?_eq_getElem hi] at e2
        cases e2
      · rw [List.getElem?_append_right (by rw [List.length_map]; omega), List.getElem?_replicate] at e2
        split at e2 <;> cases e2
  · rw [List.mem_singleton.mp hg]
    refine ⟨fun a ha => absurd ha (by exact List.not_mem_nil), Nat.le_refl _, fun a xs e => ?_⟩
    rw [show (frS H).O (L2.start N vs) Γ = [] from no]
    exact reg_has (by simp) rfl e trivial
/-- all that stood ahead stands behind -/
theorem Holds.outS {H0 : Hp} (h : Holds Z σ H Γ) (h0 : Z.h0 = wt H0) (hg : gStay H0 ∈ Z.gs) : Ex H0 H := fun a o e => by
  by_cases k : ∃ xs, o = .tup xs
  · obtain ⟨xs, rfl⟩ := k
    exact rg_le _ _ ((h.gok _ hg).2.2 a xs e)
  · exact h.h0x a o (by rw [h0]; exact wt_at e fun xs z => k ⟨xs, z⟩)
/-- a new hidden thing is told of -/
theorem Holds.addG {g : GS} (h : Holds Z σ H Γ) (e : Ex H H') (hp : ∀ a ∈ g.as, H a = none ∧ H' a ≠ none) (hm : 1 ≤ g.m) (hP : g.P (rg g.m (g.as ++ Z.O σ Γ) Z.h0 Z.h0 H') (only g.as H')) : Holds { Z with ex := g.as ++ Z.ex, gs := Z.gs ++ [g] } σ H' Γ := by
  have h1 := h.hides e hp
  refine h1.tell (gs' := Z.gs ++ [g]) (fun g' hg' => ?_) ?_
  · rcases List.mem_append.mp hg' with z | z
    · exact h1.gok g' z
    · rw [List.mem_singleton.mp z]
      refine ⟨fun a ha => List.mem_append_left _ ha, hm, ?_⟩
      rw [show ({ Z with ex := g.as ++ Z.ex } : Fr).O σ Γ = g.as ++ Z.O σ Γ from List.append_assoc _ _ _]
      exact hP
  · refine List.pairwise_append.mpr ⟨h.gap, List.pairwise_singleton _ _, fun g1 h1 g2 h2 a ha hb => ?_⟩
    rw [List.mem_singleton.mp h2] at hb
    exact (h.exd a ((h.gok g1 h1).1 a ha)).1 (hp a hb).1
end
/-! ### reading -/
section
variable {X : Cx} {e a b : Expr} {pos : Pos} {Z : Fr} {Γ : List SV} {m ma mb mt i j k : Nat} {d : D} {ds es xs : List D} {tg l : Expr} {o : HO}
theorem l_n (h : PE X e (tN Z Γ m ds)) : PE X e (tL Z Γ m ds) := pe_imp h fun σ H Q q => ⟨q.1, fun l vs H' ex _ h2 r => q.2 l vs H' ex h2 r⟩
/-! ### lists of new empty things -/
/-- a new empty thing -/
def tNewO (o : HO) : TE := fun _ H Q => ∀ p, H p = none → Q (.ref p) (upd H p o)
/-- the list l of new empty things ds -/
def Fresh (H H' : Hp) (o : HO) (n : Nat) (l : Addr) (ds : List Addr) : Prop := (l :: ds).Nodup ∧ (∀ a ∈ l :: ds, H a = none) ∧ H' l = some (.lst (ds.map V.ref)) ∧ (∀ a ∈ ds, H' a = some o) ∧ ds.length = n
variable {ifs : List Expr} {elt iter : Expr} {scope : Scope}
theorem imp_fresh {α : Type} {enc : α → D} {ys : List α} {vs : List Nat} {p : Pat} (hm : 1 ≤ m) (hz : noz Γ = true) (hno : nown Γ vs = true) (hsl : slotsIn p vs = true) (hlen : ys.length ≤ 1000000)
    (hp : ∀ y ∈ ys, ∃ Γ1, bindP (min m 2) p (enc y) (wipeG Γ vs) = some Γ1)
    {σ : L2.St} {H : Hp} {Q : VK} (h : Holds Z σ H Γ) (k : ∀ l ds H', Ex H H' → Fresh H H' o ys.length l ds → Q (.ref l) H') :
    tLc (tI Z Γ m (ys.map enc)) (gP X.K p) (fun _ H Q => Q true H) (tNewO o) vs σ H Q := by
  refine ⟨h, fun J H1 e1 y D hD => ?_⟩
  generalize hB : rg m (Z.O σ Γ) Z.h0 H H1 = B at y
  have h1 := h.grow e1
  have hfr : Holds { Z with fs := B :: Z.fs } σ H1 Γ := h1.frame (by rw [← hB]; exact rg_le) (by rw [← hB]; exact rg_off hm) (by rw [← hB]; exact fun _ _ => rg_nt)
  have hhd : Holds { Z with fs := B :: Z.fs, ex := D :: Z.ex } σ (upd H1 D (.lst [])) Γ := hfr.hide hD
  have hw := hhd.wipe vs
  generalize hZ : ({ Z with fs := B :: Z.fs, ex := D :: Z.ex } : Fr) = Z' at hw
  have hZ0 : Z'.h0 = Z.h0 := by rw [← hZ]
  have hDex : D ∈ Z'.ex := by rw [← hZ]; exact List.mem_cons_self
  have hZg : Z'.gs = Z.gs := by rw [← hZ]
  have hDg : ∀ g ∈ Z.gs, D ∉ g.as := fun g hg z => (h1.exd D ((h1.gok g hg).1 D z)).1 hD
  have hHD : H D = none := Ex.free e1 hD
  refine ⟨fun i n Hi => n = ys.length - i ∧ i ≤ ys.length ∧ Holds Z' (wipe σ vs) Hi (wipeG Γ vs) ∧ Ex H Hi ∧ ∃ ds, Fresh H Hi o i D ds,
    ⟨ys.length, by simp, Nat.zero_le _, hw, e1.trans (Ex.new hD), [], by simp, fun a ha => by rw [List.mem_singleton.mp ha]; exact hHD, upd_same, by simp, rfl⟩, ?_⟩
  rintro i n Hi ⟨rfl, hi, p', hx, ds, f1, f2, f3, f4, f5⟩
  have hst : Ex B Hi := (p'.ext B (.inr (by rw [← hZ]; exact List.mem_cons_self))).1
  obtain ⟨y1, y2⟩ := y i Hi hst
  by_cases hlt : i < ys.length
  · have gi : ys[i]? = some ys[i] := List.getElem?_eq_getElem hlt
    obtain ⟨hgo, hy⟩ := y1 (enc ys[i]) (by rw [List.getElem?_map, gi]; rfl)
    refine .inr ⟨hgo, fun Hj => i + 1 ≤ ys.length ∧ Holds Z' (wipe σ vs) Hj (wipeG Γ vs) ∧ Ex H Hj ∧ ∃ ds, Fresh H Hj o (i + 1) D ds, fun Hj q => ⟨ys.length - (i + 1), by omega, rfl, q⟩, fun x H2 q => ?_⟩
    obtain ⟨e2, r⟩ := hy x H2 q
    have p2 := p'.grow e2
    obtain ⟨Γ1, hb⟩ := hp ys[i] (List.getElem_mem hlt)
    have hBO : ∀ l ∈ Z'.O (wipe σ vs) (wipeG Γ vs), B l = none := (p2.ext B (.inr (by rw [← hZ]; exact List.mem_cons_self))).2
    have rr := r (rg (min m 2) (Z'.O (wipe σ vs) (wipeG Γ vs)) Z'.h0 Z'.h0 H2) (by rw [hZ0]; exact reg_later hm hB.symm h.h0x (hst.trans e2) hBO) (rg_fresh p'.dom p'.h0x p'.h0x)
    refine gP_kept p2 rr hb hsl (nown_wipe hno vs) fun σ1 h1' k1 => ⟨by rw [k1.wp, wipe_wipe], ?_⟩
    refine iteT fun q hq => ?_
    have e24 : Ex Hi (upd H2 q o) := e2.trans (Ex.new hq)
    have hqD : D ≠ q := fun z => by have := e2 _ _ f3; rw [z, hq] at this; cases this
    refine ⟨ds.map V.ref, by rw [upd_ne hqD]; exact e2 _ _ f3, ?_, hlt, (p'.grow e24).turnEx hDex (noz_wipe hz vs) (by rw [hZg]; exact hDg), fun a u z => ?_, ds ++ [q], ?_, fun a ha => ?_, ?_, fun a ha => ?_, ?_⟩
    · rw [List.length_map, f5]
      exact Nat.lt_of_lt_of_le hlt (Nat.le_trans hlen (by decide))
    · rw [upd_ne (ne_of_none z hHD)]
      exact e24 _ _ (hx _ _ z)
    · rw [← List.cons_append]
      refine List.nodup_append.mpr ⟨f1, by simp, fun a ha b hb' z => ?_⟩
      rw [List.mem_singleton.mp hb'] at z
      rcases List.mem_cons.mp ha with w | w
      · exact hqD (by rw [← w, z])
      · have := e2 _ _ (f4 a w)
        rw [z, hq] at this; cases this
    · rw [← List.cons_append] at ha
      rcases List.mem_append.mp ha with w | w
      · exact f2 a w
      · rw [List.mem_singleton.mp w]; exact Ex.free (hx.trans e2) hq
    · rw [upd_same, List.map_append]; rfl
    · rcases List.mem_append.mp ha with w | w
      · have hne : a ≠ D := fun z => (List.nodup_cons.mp f1).1 (by rw [← z]; exact w)
        rw [upd_ne hne]
        exact e24 _ _ (f4 a w)
      · rw [List.mem_singleton.mp w, upd_ne hqD.symm, upd_same]
    · rw [List.length_append, f5]; rfl
  · have e : i = ys.length := by omega
    subst e
    exact .inl ⟨y2 (by rw [List.length_map]; exact Nat.le_refl _), k D ds Hi hx ⟨f1, f2, f3, f4, f5⟩⟩
variable {rest body : List Stmt} {E : Ends} {σ : L2.St} {H : Hp}
theorem tabAt_fresh {R : Hp} {H H' : Hp} {n : Nat} {l : Addr} {ds : List Addr} (f : Fresh H H' (.dT []) n l ds) : TabAt R (only (l :: ds) H') l ds (List.replicate n []) := by
  obtain ⟨f1, f2, f3, f4, f5⟩ := f
  refine ⟨by rw [only_at List.mem_cons_self]; exact f3, by rw [List.length_replicate]; exact f5, f1, fun i d row hd hr => ?_⟩
  have hm : d ∈ ds := List.mem_of_getElem? hd
  rw [List.getElem?_replicate] at hr
  split at hr
  · cases hr
    exact ⟨[], by rw [only_at (List.mem_cons_of_mem _ hm)]; exact f4 d hm, rfl, .nil⟩
  · cases hr
/-- x = [{} for y in range(n)] -/
theorem w_tabs {n : Nat} (mt : Nat) (i : Nat) {x : Str} {py dp : Pos} (own : List (Str × Nat)) (p : Pat) (hi : PI X tg iter (tI Z Γ m (rng 0 n))) (hg : ∀ (s : Shared) (H' : Hp) (C : Addr) (cl : List (Str × Addr)) (fp : List Addr), PG (blkX X scope s H' C cl fp) tg (gP X.K p))
    (hp : ∀ i : Int, ∃ Γ1, bindP (min m 2) p (.int i) (wipeG Γ (own.map (·.2))) = some Γ1) (h : Holds Z σ H Γ)
    (k : ∀ l ds σ' H', Ex H H' → (∀ a ∈ l :: ds, H a = none) → Holds { Z with ex := (l :: ds) ++ Z.ex, gs := Z.gs ++ [gTb mt l ds (List.replicate n [])] } σ' H' (Γ.set i (.raw (.ref l))) → wp X rest E σ' H') (hlen : n ≤ 1000000) (hN : X.N.Nodup) (ok : BlkOk X.N X.env.scope scope own)
    (hsw : swapsWith (.ListComp (.Dict [] [] dp) [⟨tg, iter, [], 0⟩] scope pos) (some (.Name x py)) pos.line X.env = pure true) (hm1 : 1 ≤ mt := by decide) {spos : Pos} (hsp : spos.line = pos.line := by rfl) (hi' : X.N[i]? = some x := by rfl) (hl : X.env.scope.names.lookup x = some .local := by rfl) (hc : X.calm = true := by rfl) (hm : 1 ≤ m := by decide)
    (hz : noz Γ = true := by rfl) (hno : nown Γ (own.map (·.2)) = true := by rfl) (hsl : slotsIn p (own.map (·.2)) = true := by rfl) (hs : ∀ x, foldedSetIterable iter X.env x = pure x := by intro _; rfl) :
    wp X (.Assign [.Name x py] (.ListComp (.Dict [] [] dp) [⟨tg, iter, [], 0⟩] scope pos) spos :: rest) E σ H :=
  wp_cons (ps_setLc (te := tNewO (.dT [])) (tt := fun _ H Q => Q true H) hc hN hi' hl (by rw [hsp]; exact hsw) hi ok hg (fun s H C cl fp => pts_nil) (fun s H C cl fp => pe_dnewT) hs)
    (imp_fresh (Q := fun v H' => wp X rest E (σ.set i (some v)) H') (enc := fun j : Nat => D.int (0 + (j : Int))) (ys := List.range n) hm hz hno hsl (by rw [List.length_range]; exact hlen) (fun y _ => hp _) h fun l ds H' e f => by
      rw [List.length_range] at f
      refine k l ds _ H' e f.2.1 ((h.addG (g := gTb mt l ds (List.replicate n [])) e (fun a ha => ⟨f.2.1 a ha, ?_⟩) hm1 (tabAt_fresh f)).raw i (.ref l))
      rcases List.mem_cons.mp ha with z | z
      · rw [z, f.2.2.1]; simp
      · rw [f.2.2.2.1 a z]; simp)
/-! ### the keys of a dict -/
theorem isKeys_rep {R H : Hp} (hR : ∀ b xs, H b = some (.tup xs) → R b = some (.tup xs)) : ∀ {kvs : List (List Key × V)} {row : Row} {bs : List Addr}, IsKeys H kvs bs → kvs.map (·.1) = row.map (fun p => kI p.1) → RepL R (bs.map V.ref) (row.map fun p => dT p.1)
  | [], [], bs, h, _ => by
    cases h; exact .nil
  | [], _ :: _, _, _, e => by cases e
  | _ :: _, [], _, _, e => by cases e
  | q :: kvs, p :: row, bs, h, e => by
    have e1 : q.1 = kI p.1 := (List.cons.inj e).1
    have e2 := (List.cons.inj e).2
    cases h with
    | cons h1 h2 =>
      refine .cons ?_ (isKeys_rep hR h2 e2)
      rw [e1, kI_kV] at h1
      exact .tup (hR _ _ h1) (RepL.ints p.1)
variable {rows : List Row} {row : Row} {tl : Addr} {td : List Addr}
/-- list(t[k]): the keys -/
theorem n_listK (mk k : Nat) (hg : gTb mt tl td rows ∈ Z.gs) (hn : NoTu Z) (ho : PE X a (tR Z Γ (.ref (td.getD k 0)))) (hr : rows[k]? = some row) (hm : X.mg "list" = none) (hk : mk = 1 ∨ (mk = 2 ∧ ∀ a xs, Z.h0 a ≠ some (.tup xs))) (hc : X.calm = true := by rfl) (hgl : Gl X "list" := by rfl) (he : starEach [a] X.env = (false, eval a X.env) :: starEach [] X.env := by rfl) {p : Pos} (hpl : (backTo pos (starEach [] X.env)).any (·.1) = false := by rfl) :
    PE X (.Call (.Name "list" p) [a] [] pos) (tN Z Γ mk (row.map fun p => dT p.1)) :=
  pe_imp (pe_callTy (call_list_dT hc) hgl hm (by decide +kernel) (pa_cons ho pa_nil he) (by decide) (by decide) he hpl) fun σ H Q h => ⟨h.1, fun H1 e1 => by
    have h1 := h.1.grow e1
    obtain ⟨kvs, k1, k2, k3⟩ := dic_at h1 hg hr
    refine ⟨_, kvs, rfl, .of k1, fun p bs hp hb => h.2 p _ _ (e1.trans (Ex.new hp)) (Ex.free e1 hp) upd_same (isKeys_rep (H := H1) (fun b xs hb' => ?_) hb k2)⟩
    have hO : b ∉ Z.O σ Γ := fun z => h1.noTu hn b z xs hb'
    have hb2 : upd H1 p (.lst (bs.map V.ref)) b = some (.tup xs) := Ex.new hp _ _ hb'
    rcases hk with rfl | ⟨rfl, h0⟩
    · exact reg_has hO rfl hb2 trivial
    · refine reg_has hO ?_ hb2 trivial
      cases q : Z.h0 b with
      | none => rfl
      | some o =>
        have := h1.h0x _ _ q
        rw [hb'] at this; cases this
        exact absurd q (h0 b xs)⟩
/-- for target in iter: body; what is told of hidden things goes with the state -/
theorem w_forZ {S : Type} (p : Pat) (hi : PI X tg iter (tI Z Γ m xs)) (hm : 1 ≤ m) (hg : PG X tg (gP X.K p)) (hp : PassesOwn (model X.prog X.w) X.A X.env X.xe) (hc : X.calm = true) (h : Holds Z σ H Γ) (G : S → List GS) (Γs : S → List SV) (I : Nat → S → Prop) (s0 : S) (hI : I 0 s0) (hG : G s0 = Z.gs)
    (h0 : ∀ Z' H', Holds Z' σ H' Γ → Holds Z' σ H' (Γs s0))
    (turn : ∀ (i : Nat) (d : DL.D) (s : S) (B : Hp) (σ' : L2.St) (H' : Hp), xs[i]? = some d → I i s → Holds { Z with fs := B :: Z.fs, gs := G s } σ' H' (Γs s) → ∃ Γ1, bindP (min m 2) p d (Γs s) = some Γ1 ∧ ∀ σ1 H1, Holds { Z with fs := B :: Z.fs, gs := G s } σ1 H1 Γ1 →
      wp X body { E with nx := fun σ2 H2 => ∃ s', I (i + 1) s' ∧ Holds { Z with fs := B :: Z.fs, gs := G s' } σ2 H2 (Γs s'), ct := fun σ2 H2 => ∃ s', I (i + 1) s' ∧ Holds { Z with fs := B :: Z.fs, gs := G s' } σ2 H2 (Γs s'), bk := fun σ' H' => wp X rest E σ' H' } σ1 H1)
    (after : ∀ s σ' H', I xs.length s → Holds { Z with gs := G s } σ' H' (Γs s) → wp X rest E σ' H') (hs : ∀ x, foldedSetIterable iter X.env x = pure x := by intro _; rfl) : wp X (.For tg iter body [] pos :: rest) E σ H := by
  refine wp_cons (ps_for hp hc hi hg (pss_wp body) hs) ⟨h, fun J H1 e1 y => ?_⟩
  generalize hB : rg m (Z.O σ Γ) Z.h0 H H1 = B at y
  have hfr : Holds { Z with fs := B :: Z.fs, gs := G s0 } σ H1 Γ := by
    rw [hG]
    exact (h.grow e1).frame (by rw [← hB]; exact rg_le) (by rw [← hB]; exact rg_off hm) (by rw [← hB]; exact fun _ _ => rg_nt)
  refine ⟨fun i n σ' H' => n = xs.length - i ∧ i ≤ xs.length ∧ ∃ s, I i s ∧ Holds { Z with fs := B :: Z.fs, gs := G s } σ' H' (Γs s), ⟨xs.length, by simp, Nat.zero_le _, s0, hI, h0 _ _ hfr⟩, ?_⟩
  rintro i n σ' H' ⟨rfl, hi, s, is, p'⟩
  have st : Ex B H' := (p'.ext B (.inr List.mem_cons_self)).1
  obtain ⟨y1, y2⟩ := y i H' st
  by_cases hlt : i < xs.length
  · obtain ⟨hgo, hy⟩ := y1 xs[i] (List.getElem?_eq_getElem hlt)
    refine .inr ⟨hgo, fun σ2 H2 => ∃ s', I (i + 1) s' ∧ Holds { Z with fs := B :: Z.fs, gs := G s' } σ2 H2 (Γs s'), fun σ2 H2 q => ⟨xs.length - (i + 1), by omega, rfl, hlt, q⟩, fun x H2 q => ?_⟩
    obtain ⟨e2, r⟩ := hy x H2 q
    have p2 := p'.grow e2
    have st2 : Ex B H2 := (p2.ext B (.inr List.mem_cons_self)).1
    obtain ⟨Γ1, hb, tn⟩ := turn i xs[i] s B σ' H2 (List.getElem?_eq_getElem hlt) is p2
    have rr := r (rg (min m 2) (Z.O σ' (Γs s)) Z.h0 Z.h0 H2) (reg_later hm hB.symm h.h0x st2 (fun l hl => (p2.ext B (.inr List.mem_cons_self)).2 l hl)) (rg_fresh p'.dom p'.h0x p'.h0x)
    exact gP_ok p2 rr hb fun σ1 h1 _ => tn σ1 H2 h1
  · have e : i = xs.length := by omega
    subst e
    refine .inl ⟨y2 (Nat.le_refl _), after s σ' H' is ?_⟩
    exact ⟨fun B' hB' => p'.ext B' (hB'.imp id (List.mem_cons_of_mem _)), p'.exd, p'.len, p'.nd, p'.ok, p'.gok, p'.gap, fun B' hB' => p'.fnt B' (List.mem_cons_of_mem _ hB')⟩
end
end DL

set_option Elab.async false
set_option linter.all false
set_option maxRecDepth 100000
/-! DL22: defs that give a new table; what the caller knows of it. -/
namespace DL
open PySem L2
/-- a def's promise: a new list of dicts -/
def PurTb {α : Type} (arg : α → List D) (pre : α → Prop) (res : α → List Row) : Sp := fun vs H Q _ => ∃ a, RepL H vs (arg a) ∧ pre a ∧ ∀ l ds H', Ex H H' → (∀ x ∈ l :: ds, H x = none) → TabAt (reg (l :: ds) (wt H) H') (only (l :: ds) H') l ds (res a) → Q (.ref l) H'
/-- a new list of dicts -/
def tTb (Z : Fr) (Γ : List SV) (mt : Nat) (rows : List Row) : TE := fun σ H Q => Holds Z σ H Γ ∧ ∀ l ds H', Ex H H' → (∀ a ∈ l :: ds, H a = none) → TabAt (rg mt ((l :: ds) ++ Z.O σ Γ) Z.h0 Z.h0 H') (only (l :: ds) H') l ds rows → Q (.ref l) H'
/-- the region of mode m of a walk whose start holds no tuples -/
def okM (Z : Fr) (m : Nat) : Prop := m = 1 ∨ (m = 2 ∧ ∀ a xs, Z.h0 a ≠ some (.tup xs))
theorem okM.one {Z : Fr} : okM Z 1 := .inl rfl
theorem okM.two {Z : Fr} {H : Hp} (h : Z.h0 = wt H) : okM Z 2 := .inr ⟨rfl, fun a xs e => by rw [h] at e; exact (wt_some e).2 xs rfl⟩
section
variable {P : Program} {w : World} {K : PySem.W.Frag} {mg : Str → Option Value} {base : Heap}
theorem Fun.purTb {α : Type} {x qual : Str} {st : Stmt} {f : Addr} {fd : FuncData} {N ps : List Str} {k : Nat} {arg : α → List D} {pre : α → Prop} {res : α → List Row} (F : Fun K x qual st f fd) (S : FnScope N ps (defScope st)) (len : ∀ a, (arg a).length = ps.length) (hN : ps.length ≤ N.length)
    (hbody : ∀ (cdv : Value) (A : Around) (outer : List Env) (s : Shared) (H : Hp) (σ : L2.St) (E : XK) (Q : VK) (a : α), Room k (A.deeper (PyProof.Rows.envOfC qual (defScope st) s.heap.objs.size f cdv)) → pre a →
      Holds (frS H) σ H ((arg a).map (SV.dat 1) ++ List.replicate (N.length - ps.length) .any) → (∀ l ds H', Ex H H' → (∀ x ∈ l :: ds, H x = none) → TabAt (reg (l :: ds) (wt H) H') (only (l :: ds) H') l ds (res a) → Q (.ref l) H') →
      wp (cxOf CX0 P w K mg base N qual (defScope st) f cdv A outer s H E).nox (defBody st) { nx := fun _ H' => Q .non H', rt := Q } σ H) : FnOk P w K mg base CX0 (k + 1) f fd ps (PurTb arg pre res) := by
  refine F.ok S (fun vs H Q E h => ?_) fun cdv A outer s H vs Q E hr h => ?_
  · obtain ⟨a, r, _⟩ := h
    rw [r.length, len]
  · obtain ⟨a, r, hp, q⟩ := h
    exact hbody cdv A outer s H (L2.start N vs) E Q a hr hp (holds_startS r _ (by rw [len]; exact hN) (by rw [len])) q
end
section
variable {X : Cx} {e a b : Expr} {pos : Pos} {Z : Fr} {Γ : List SV} {m ma mb mt i j k : Nat} {d : D} {ds es xs : List D} {σ : L2.St} {H H' : Hp} {rest : List Stmt} {E : Ends} {v : V} {rows : List Row}
/-- a name of the def that holds a known value -/
theorem r_x (i : Nat) {x : Str} (hΓ : Γ[i]? = some (.raw v)) (hN : X.N[i]? = some x := by rfl) (hv : Vis X.env.scope x := by first | exact Or.inl rfl | exact Or.inr (Or.inl rfl) | exact Or.inr (Or.inr rfl))
    (hd : (x == ("__debug__" : Str)) = false := by decide) (hcd : (x == ("__classdict__" : Str)) = false := by decide) : PE X (.Name x pos) (tR Z Γ v) :=
  pe_imp (pe_var hN hv hd hcd) fun σ H Q h => ⟨v, by
    have hl : i < σ.length := by rw [h.1.len]; exact (List.getElem?_eq_some_iff.mp hΓ).1
    rw [List.getElem?_eq_getElem hl]
    have := h.1.ok i _ _ (List.getElem?_eq_getElem hl) hΓ
    rw [this], h.2 H (Ex.refl H)⟩
theorem w_retR (he : PE X e (tR Z Γ v)) (h : Holds Z σ H Γ) (k : ∀ H', Ex H H' → Holds Z σ H' Γ → E.rt v H') : wp X (.Return (some e) pos :: rest) E σ H :=
  wp_cons (ps_ret he) ⟨h, fun H' e => k H' e (h.grow e)⟩
/-- the end of a def that gives a table -/
theorem tab_out {H0 : Hp} {l : Addr} {td : List Addr} {rows : List Row} (h : Holds Z σ H Γ) (h0 : Z.h0 = wt H0) (hs : gStay H0 ∈ Z.gs) (hg : gTb 2 l td rows ∈ Z.gs) (hx : ∀ a ∈ l :: td, H0 a = none) : Ex H0 H ∧ TabAt (reg (l :: td) (wt H0) H) (only (l :: td) H) l td rows := by
  refine ⟨h.outS h0 hs, (gTb 2 l td rows).mono ?_ (h.tabAt hg)⟩
  have hsub : ∀ a, a ∈ l :: td → a ∈ Z.O σ Γ := fun a ha => List.mem_append_left _ ((h.gok _ hg).1 a ha)
  rw [h0]
  exact reg_ex (fun a z => .inl (hsub a z)) (Ex.refl _) (Ex.refl _)
theorem tab_in {H1 : Hp} {l : Addr} {td : List Addr} (h : Holds Z σ H1 Γ) (hn : NoTu Z) (hk : okM Z mt) (t : TabAt (reg (l :: td) (wt H1) H') (only (l :: td) H') l td rows) : TabAt (rg mt ((l :: td) ++ Z.O σ Γ) Z.h0 Z.h0 H') (only (l :: td) H') l td rows := by
  refine (gTb 1 l td rows).mono (fun a o q => ?_) t
  obtain ⟨q1, q2, q3, q4⟩ := reg_some4 q
  have hO : a ∉ (l :: td) ++ Z.O σ Γ := fun z => by
    rcases List.mem_append.mp z with z | z
    · exact q1 z
    · rcases wt_none q2 with w | ⟨xs, w⟩
      · exact h.dom a z w
      · exact h.noTu hn a z xs w
  rcases hk with rfl | ⟨rfl, hk⟩
  · exact reg_has hO rfl q3 q4
  · refine reg_has hO ?_ q3 q4
    cases z : Z.h0 a with
    | none => rfl
    | some o' =>
      have w := h.h0x _ _ z
      rcases wt_none q2 with w' | ⟨xs, w'⟩
      · rw [w] at w'; cases w'
      · rw [w] at w'; cases w'
        exact absurd z (hk a xs)
/-- f(..) gives a new table -/
theorem d_fnTb {α : Type} {arg : α → List D} {pre : α → Prop} {res : α → List Row} {j k : Nat} {x : Str} {st : Stmt} {ps : List Str} {p : Pos} {es : List Expr} (D : Dfn X.K X.mg x st ps) (F : FnOk X.prog X.w X.K X.mg X.base CX0 k D.f D.fd ps (PurTb arg pre res)) (hr : Room j X.A) (v : α) (hv : pre v) (hn : NoTu Z) (hk' : okM Z mt)
    (ha : PA X (e :: es) (tDA Z Γ m (arg v))) (hk : k ≤ j := by decide) (hg : Gl X x := by rfl) (hdb : (x == ("__debug__" : Str)) = false := by decide) (he : starEach (e :: es) X.env = (false, eval e X.env) :: starEach es X.env := by rfl) (hpl : (backTo pos (starEach es X.env)).any (·.1) = false := by rfl) :
    PE X (.Call (.Name x p) (e :: es) [] pos) (tTb Z Γ mt (res v)) :=
  pe_imp (pe_call F (hr.mono hk) hg D.g D.F.kp D.b .nil pass0 ha hdb he hpl) fun σ H Q h => ⟨h.1, fun vs H1 e1 r1 =>
    ⟨v, by rw [List.append_nil]; exact r1.mono rg_le, hv, fun l ds H' e' f t => h.2 l ds H' (e1.trans e') (fun a ha => Ex.free e1 (f a ha)) (tab_in (h.1.grow e1) hn hk' t)⟩⟩
/-- x = a new table -/
theorem w_setTb (i : Nat) {x : Str} {p : Pos} (he : PE X e (tTb Z Γ mt rows)) (h : Holds Z σ H Γ) (hm1 : 1 ≤ mt)
    (k : ∀ l ds σ' H', Ex H H' → Holds { Z with ex := (l :: ds) ++ Z.ex, gs := Z.gs ++ [gTb mt l ds rows] } σ' H' (Γ.set i (.raw (.ref l))) → wp X rest E σ' H')
    (hN : X.N.Nodup) (hi : X.N[i]? = some x := by rfl) (hx : Loc X.env.scope x := by first | exact .inl rfl | exact .inr rfl) (hf : X.fn x = true ∨ X.env.scope.names.lookup x = some .local := by first | exact .inl rfl | exact .inr rfl)
    (hs : swapsWith e (some (.Name x p)) pos.line X.env = pure false := by rfl) : wp X (.Assign [.Name x p] e pos :: rest) E σ H :=
  wp_cons (ps_asg he (pg_name hN hi hx hf) hs) ⟨h, fun l ds H' ex f t => k l ds _ H' ex ((h.addG (g := gTb mt l ds rows) ex (fun a ha => ⟨f a ha, fun z => by
    rcases List.mem_cons.mp ha with q | q
    · have := (only_some t.1).2
      rw [← q, z] at this; cases this
    · obtain ⟨n, hn, rfl⟩ := List.mem_iff_getElem.mp q
      have hn2 : n < rows.length := by rw [← t.2.1]; exact hn
      obtain ⟨kvs, k1, _⟩ := t.2.2.2 n ds[n] rows[n] (List.getElem?_eq_getElem hn) (List.getElem?_eq_getElem hn2)
      have := (only_some k1).2
      rw [z] at this; cases this⟩) hm1 t).raw i (.ref l))⟩
end
end DL

set_option Elab.async false
set_option linter.all false
set_option maxRecDepth 100000
/-! DL23: a dict == {}, its keys walked; lists of hidden dicts walked. -/
namespace DL
open PySem L2
open PySem.W PySem.Calls PyProof.Rows PyProof.V PySem.Spec in
theorem samePairs0 {prog : Program} {w : World} {A : Around} {E : Value → Shared → Prop} {s : Shared} {nm : String} {a b : Addr} {oa ob : Obj} {es es' : Array DictEntry} {ep ep' : Nat} {Q : Bool → Shared → Prop} (ha : (a == sysModules) = false) (hb : (b == sysModules) = false)
    (hoa : s.heap.get? a = some oa) (hda : oa.data = .dict es ep) (hob : s.heap.get? b = some ob) (hdb : ob.data = .dict es' ep') (h0 : es'.size = 0) (h : Q (decide (es.size = 0)) s) :
    wpAny (model prog w) A (Builtin.Dict.samePairs nm a b) Q E s := by
  unfold Builtin.Dict.samePairs Builtin.Dict.showsAll
  rw [if_neg (show ¬ (a == sysModules) = true by rw [ha]; exact Bool.false_ne_true), if_neg (show ¬ (b == sysModules) = true by rw [hb]; exact Bool.false_ne_true)]
  refine wpAny_bind (wpAny_pure (wpAny_bind (wpAny_pure ?_)))
  refine wpAny_bind (wpAny_dictEntries hoa hda ?_)
  dsimp only
  refine wpAny_bind (wpAny_dictEntries hob hdb ?_)
  by_cases hsz : es.size = es'.size
  case neg =>
    rw [if_pos (by simpa using hsz)]
    have hbf : decide (es.size = 0) = false := decide_eq_false (by rw [h0] at hsz; exact hsz)
    rw [hbf] at h
    exact wpAny_bind (wpAny_rule (wpAny_pure h))
  case pos =>
    have hz : es.size = 0 := hsz.trans h0
    have h' : Q true s := by rw [decide_eq_true hz] at h; exact h
    rw [if_neg (by rw [hsz]; simp)]
    refine wpAny_bind (wpAny_dictEpoch hoa hda ?_)
    refine wpAny_bind ?_
    rw [Std.Legacy.Range.forIn_eq_forIn_range']
    simp only [Std.Legacy.Range.size, Nat.sub_zero, Nat.add_sub_cancel, Nat.div_one, hz, List.range'_zero]
    exact wpAny_pure (wpAny_pure h')
open PySem.W PySem.Calls PyProof.Rows PyProof.V PySem.Spec in
theorem rc0 {prog : Program} {w : World} {A : Around} {E Q : Value → Shared → Prop} {s : Shared} {a b : Addr} {oa ob : Obj} {es es' : Array DictEntry} {ep ep' : Nat} (ha : (a == sysModules) = false) (hb : (b == sysModules) = false)
    (hoa : s.heap.get? a = some oa) (hca : oa.cls = .type "dict") (hda : oa.data = .dict es ep) (hob : s.heap.get? b = some ob) (hcb : ob.cls = .type "dict") (hdb : ob.data = .dict es' ep') (h0 : es'.size = 0) (hu : A.units < cLine) (h : Q (.bool (decide (es.size = 0))) s) : wpAny (model prog w) A (richCompare .Eq (.ref a) (.ref b)) Q E s := by
  have ta : s.TypeIs (.ref a) "dict" := ⟨oa, hoa, hca⟩
  have tb : s.TypeIs (.ref b) "dict" := ⟨ob, hob, hcb⟩
  refine wpAny_richCompare_same_room (op := .Eq) ta tb PySem.F.slot_dict_eq (wpAny_call_entry PySem.F.slot_dict_eq ta PySem.F.entry_dict_eq ?_ (PySem.F.args_dict_eq_2 _ _)) hu
  show wpAny _ _ (Builtin.Dict.dictSlotArgs "__eq__" ⟨[.ref a, .ref b], []⟩ >>= _) _ _ s
  refine wpAny_bind ?_
  unfold Builtin.Dict.dictSlotArgs
  refine wpAny_bind (wpAny_notOrdered_dict ta ?_)
  show wpAny _ _ (pure (Value.ref a, Value.ref b)) _ _ s
  refine wpAny_pure ?_
  refine wpAny_bind (wpAny_isInstance (T := "dict") tb PySem.F.sub_dict_dict ?_)
  simp only [Bool.not_true, Bool.false_eq_true, if_false]
  refine wpAny_bind (wpAny_pure (wpAny_bind (wpAny_pure ?_)))
  refine wpAny_bind (samePairs0 ha hb hoa hda hob hdb h0 ?_)
  refine wpAny_pure ⟨_, rfl, ?_, ?_⟩
  · exact fun x => nomatch x
  · simpa using h
/-- a dict with tuple keys against an empty one -/
def rEq0 : R2 := fun x y H Q => ∃ a b kvs, x = .ref a ∧ y = .ref b ∧ H a = some (.dT kvs) ∧ H b = some (.dT []) ∧ Q (.bl kvs.isEmpty) H
theorem op_eq0 {X : Cx} (hu : X.A.units < cLine) : OpR X (compareOp .Eq) rEq0 := by
  intro pins s σ H x y v u Q I rx ry h
  obtain ⟨a, b, kvs, rfl, rfl, ha, hb, q⟩ := h
  cases rx; cases ry
  obtain ⟨z, y1, xs, r, o, es, ep, h1, h2, h3, h4, _⟩ := (show ObjOk X.prog X.w H s.heap a (.dT kvs) from I.hok a _ ha)
  obtain ⟨z', y1', xs', r', o', es', ep', h1', h2', h3', h4', _⟩ := (show ObjOk X.prog X.w H s.heap b (.dT []) from I.hok b _ hb)
  have l1 : es.size = xs.length := size_of_entries h4
  have l2 : kvs.length = xs.length := Paired.length r
  have l1' : es'.size = xs'.length := size_of_entries h4'
  have l2' : ([] : List (List Key × V)).length = xs'.length := Paired.length r'
  have e : decide (es.size = 0) = kvs.isEmpty := by
    rw [l1, ← l2]
    cases kvs <;> rfl
  exact rc0 y1 y1' h1 h2.1 h3 h1' h2'.1 h3' (by rw [l1', ← l2']; rfl) hu ⟨.bl kvs.isEmpty, H, I, by show RelV (.bl _) _; rw [e]; rfl, q⟩
open PySem.W PySem.Calls PyProof.Rows PyProof.V PySem.Spec in
theorem rc0n {prog : Program} {w : World} {A : Around} {E Q : Value → Shared → Prop} {s : Shared} {a b : Addr} {oa ob : Obj} {es es' : Array DictEntry} {ep ep' : Nat} (ha : (a == sysModules) = false) (hb : (b == sysModules) = false)
    (hoa : s.heap.get? a = some oa) (hca : oa.cls = .type "dict") (hda : oa.data = .dict es ep) (hob : s.heap.get? b = some ob) (hcb : ob.cls = .type "dict") (hdb : ob.data = .dict es' ep') (h0 : es'.size = 0) (hu : A.units < cLine) (h : Q (.bool (!decide (es.size = 0))) s) : wpAny (model prog w) A (richCompare .NotEq (.ref a) (.ref b)) Q E s := by
  have ta : s.TypeIs (.ref a) "dict" := ⟨oa, hoa, hca⟩
  have tb : s.TypeIs (.ref b) "dict" := ⟨ob, hob, hcb⟩
  refine wpAny_richCompare_same_room (op := .NotEq) ta tb PySem.F.slot_dict_ne (wpAny_call_entry PySem.F.slot_dict_ne ta PySem.F.entry_dict_ne ?_ (PySem.F.args_dict_ne_2 _ _)) hu
  show wpAny _ _ (Builtin.Dict.dictSlotArgs "__ne__" ⟨[.ref a, .ref b], []⟩ >>= _) _ _ s
  refine wpAny_bind ?_
  unfold Builtin.Dict.dictSlotArgs
  refine wpAny_bind (wpAny_notOrdered_dict ta ?_)
  show wpAny _ _ (pure (Value.ref a, Value.ref b)) _ _ s
  refine wpAny_pure ?_
  refine wpAny_bind (wpAny_isInstance (T := "dict") tb PySem.F.sub_dict_dict ?_)
  simp only [Bool.not_true, Bool.false_eq_true, if_false]
  refine wpAny_bind (wpAny_pure (wpAny_bind (wpAny_pure ?_)))
  refine wpAny_bind (samePairs0 ha hb hoa hda hob hdb h0 ?_)
  refine wpAny_pure ⟨_, rfl, ?_, ?_⟩
  · exact fun x => nomatch x
  · cases q : decide (es.size = 0) <;> rw [q] at h <;> exact h
/-- a dict with tuple keys against an empty one -/
def rNe0 : R2 := fun x y H Q => ∃ a b kvs, x = .ref a ∧ y = .ref b ∧ H a = some (.dT kvs) ∧ H b = some (.dT []) ∧ Q (.bl (!kvs.isEmpty)) H
theorem op_ne0 {X : Cx} (hu : X.A.units < cLine) : OpR X (compareOp .NotEq) rNe0 := by
  intro pins s σ H x y v u Q I rx ry h
  obtain ⟨a, b, kvs, rfl, rfl, ha, hb, q⟩ := h
  cases rx; cases ry
  obtain ⟨z, y1, xs, r, o, es, ep, h1, h2, h3, h4, _⟩ := (show ObjOk X.prog X.w H s.heap a (.dT kvs) from I.hok a _ ha)
  obtain ⟨z', y1', xs', r', o', es', ep', h1', h2', h3', h4', _⟩ := (show ObjOk X.prog X.w H s.heap b (.dT []) from I.hok b _ hb)
  have l1 : es.size = xs.length := size_of_entries h4
  have l2 : kvs.length = xs.length := Paired.length r
  have l1' : es'.size = xs'.length := size_of_entries h4'
  have l2' : ([] : List (List Key × V)).length = xs'.length := Paired.length r'
  have e : decide (es.size = 0) = kvs.isEmpty := by
    rw [l1, ← l2]
    cases kvs <;> rfl
  exact rc0n y1 y1' h1 h2.1 h3 h1' h2'.1 h3' (by rw [l1', ← l2']; rfl) hu ⟨.bl (!kvs.isEmpty), H, I, by show RelV (.bl _) _; rw [e]; rfl, q⟩
section
variable {X : Cx} {e a b : Expr} {pos dp : Pos} {Z : Fr} {Γ : List SV} {m ma mb mt i j k : Nat} {d : D} {ds es xs : List D} {σ : L2.St} {H H' : Hp} {rest : List Stmt} {E : Ends} {v : V} {rows : List Row} {row : Row} {tl : Addr} {td : List Addr}
theorem row_empty {kvs : List (List Key × V)} (h : kvs.map (·.1) = row.map (fun p => kI p.1)) : kvs.isEmpty = row.isEmpty := by
  cases kvs with
  | nil =>
    cases row with
    | nil => rfl
    | cons => cases h
  | cons =>
    cases row with
    | nil => cases h
    | cons => rfl
/-- t[k] == {} -/
theorem t_eqE (hu : X.A.units + 64 < cLine) (k : Nat) (hg : gTb mt tl td rows ∈ Z.gs) (ho : PE X a (tR Z Γ (.ref (td.getD k 0)))) (hr : rows[k]? = some row) : PT X (.Compare a [.Eq] [.Dict [] [] dp] pos) (tDT Z Γ row.isEmpty) :=
  pt_imp (pt_cmpR (op_eq0 (by omega)) ho pe_dnewT rfl) fun σ H Q h => ⟨h.1, fun H1 e1 p hp => by
    obtain ⟨kvs, k1, k2, k3⟩ := dic_at (h.1.grow e1) hg hr
    refine ⟨_, p, kvs, rfl, rfl, Ex.new hp _ _ k1, upd_same, ⟨_, rfl, ?_⟩⟩
    rw [row_empty k2]
    exact h.2 _ (e1.trans (Ex.new hp))⟩
theorem t_neE (hu : X.A.units + 64 < cLine) (k : Nat) (hg : gTb mt tl td rows ∈ Z.gs) (ho : PE X a (tR Z Γ (.ref (td.getD k 0)))) (hr : rows[k]? = some row) : PT X (.Compare a [.NotEq] [.Dict [] [] dp] pos) (tDT Z Γ (!row.isEmpty)) :=
  pt_imp (pt_cmpR (op_ne0 (by omega)) ho pe_dnewT rfl) fun σ H Q h => ⟨h.1, fun H1 e1 p hp => by
    obtain ⟨kvs, k1, k2, k3⟩ := dic_at (h.1.grow e1) hg hr
    refine ⟨_, p, kvs, rfl, rfl, Ex.new hp _ _ k1, upd_same, ⟨_, rfl, ?_⟩⟩
    rw [row_empty k2]
    exact h.2 _ (e1.trans (Ex.new hp))⟩
end
end DL

set_option Elab.async false
set_option linter.all false
set_option maxRecDepth 100000
/-! DL24: comprehensions over a hidden dict's keys, over hidden dicts. -/
namespace DL
open PySem L2
section
variable {X : Cx} {e a b iter elt : Expr} {pos : Pos} {Z : Fr} {Γ : List SV} {m ma mb mt i j k : Nat} {d : D} {ds es xs : List D} {σ : L2.St} {H H' : Hp} {rest : List Stmt} {E : Ends} {v : V} {rows : List Row} {row : Row} {tl : Addr} {td : List Addr} {scope : Scope} {te : TE}
/-- list(x), x a tuple of ints at a slot -/
def tListK (j : Nat) : TE := fun σ H Q => ∃ (q : Addr) (ns : List Int), σ[j]? = some (some (.ref q)) ∧ H q = some (.tup (ns.map V.int)) ∧ ∀ l, H l = none → Q (.ref l) (upd H l (.lst (ns.map V.int)))
theorem e_listK (j : Nat) {x : Str} {xp p : Pos} (hm : X.mg "list" = none) (hN : X.N[j]? = some x := by rfl) (hv : Vis X.env.scope x := by first | exact Or.inl rfl | exact Or.inr (Or.inl rfl) | exact Or.inr (Or.inr rfl)) (hd : (x == ("__debug__" : Str)) = false := by decide) (hcd : (x == ("__classdict__" : Str)) = false := by decide)
    (hg : Gl X "list" := by rfl) (he : starEach [Expr.Name x xp] X.env = (false, eval (.Name x xp) X.env) :: starEach [] X.env := by rfl) (hpl : (backTo pos (starEach [] X.env)).any (·.1) = false := by rfl) : PE X (.Call (.Name "list" p) [.Name x xp] [] pos) (tListK j) :=
  pe_imp (pe_callTy call_list_of hg hm (by decide +kernel) (pa_cons (pe_var hN hv hd hcd) pa_nil he) (by decide) (by decide) he hpl) fun σ H Q ⟨q, ns, h1, h2, h3⟩ => ⟨.ref q, h1, q, ns.map V.int, rfl, .inr (.of h2), h3⟩
theorem wipe_one {σ : L2.St} {j : Nat} {v : Option V} : wipe (σ.set j v) [j] = wipe σ [j] := by
  unfold wipe wipe
  rw [List.set_set]
/-- what a name reads, whatever else changes -/
theorem te_var {d : Addr} (i : Nat) (hΓ : Γ[i]? = some (.raw (.ref d))) : ∀ σ H Hl Q, Holds Z σ H Γ → (∀ a, a ≠ d → Hl a = H a) → Q (.ref d) Hl → tVar i σ Hl Q := fun σ H Hl Q h _ q => ⟨.ref d, by
  have hl : i < σ.length := by rw [h.len]; exact (List.getElem?_eq_some_iff.mp hΓ).1
  rw [List.getElem?_eq_getElem hl, h.ok i _ _ (List.getElem?_eq_getElem hl) hΓ], q⟩
/-- [list(x) for x in a hidden dict] -/
theorem d_lcK {x : Str} {xp : Pos} (j k : Nat) (hi : PE X iter te) (hte : ∀ σ H Hl Q, Holds Z σ H Γ → (∀ a, a ≠ td.getD k 0 → Hl a = H a) → Q (.ref (td.getD k 0)) Hl → te σ Hl Q) (hgt : gTb mt tl td rows ∈ Z.gs) (hr : rows[k]? = some row) (hlen : row.length ≤ 1000000)
    (hg : ∀ (s : Shared) (H' : Hp) (C : Addr) (cl : List (Str × Addr)) (fp : List Addr), PG (blkX X scope s H' C cl fp) (.Name x xp) (gP X.K (.nm j))) (he : ∀ (s : Shared) (H' : Hp) (C : Addr) (cl : List (Str × Addr)) (fp : List Addr), PE (blkX X scope s H' C cl fp) elt (tListK j)) (own : List (Str × Nat))
    (hN : X.N.Nodup) (ok : BlkOk X.N X.env.scope scope own) (how : own.map (·.2) = [j] := by rfl) (hc : X.calm = true := by rfl) (hj : j < Γ.length := by first | decide | exact Nat.le_of_ble_eq_true rfl) (hs : ∀ x, foldedSetIterable iter X.env x = pure x := by intro _; rfl) :
    PE X (.ListComp elt [⟨.Name x xp, iter, [], 0⟩] scope pos) (tD Z Γ 3 (.lst (row.map fun p => dI p.1))) := by
  refine pe_imp (pe_lock (pe_lc (tt := tYes) hc hN (pi_keys hi) ok hg (fun s H C cl fp => pts_nil) he hs)) fun σ H Q h => ?_
  rw [how]
  obtain ⟨kvs, k1, k2, _⟩ := dic_at h.1 hgt hr
  have hle : kvs.length = row.length := by
    have := congrArg List.length k2
    rw [List.length_map, List.length_map] at this; exact this
  generalize hdd : td.getD k 0 = d at k1 hte
  refine ⟨d, .dT kvs, k1, trivial, fun od => ?_⟩
  generalize hL : upd H d (.frz od (.dT kvs)) = HL
  have hLd : HL d = some (.frz od (.dT kvs)) := by rw [← hL]; exact upd_same
  have hLn : ∀ a, a ≠ d → HL a = H a := fun a z => by rw [← hL]; exact upd_ne z
  have hn : ∀ a, HL a = none → H a = none := fun a z => by
    by_cases q : a = d
    · rw [q, hLd] at z; cases z
    · rw [hLn a q] at z; exact z
  refine hte σ H HL _ h.1 hLn ⟨d, od, rfl, .inr ⟨kvs, hLd, fun D hD => ?_⟩⟩
  have hjσ : j < σ.length := by rw [h.1.len]; exact hj
  refine ⟨fun i n Hi => n = kvs.length - i ∧ i ≤ kvs.length ∧ Ex HL Hi ∧ ∃ acc, Hi D = some (.lst acc) ∧ RepL (wo (reg [] H Hi) D) acc ((row.take i).map fun p => dI p.1), ⟨kvs.length, by simp, Nat.zero_le _, Ex.new hD, [], upd_same, .nil⟩, ?_⟩
  rintro i n Hi ⟨rfl, hi', ex, acc, hacc, racc⟩
  have hid := ex _ _ hLd
  by_cases hlt : i < kvs.length
  · refine .inr ⟨⟨hid, hlt⟩, fun Hj => i + 1 ≤ kvs.length ∧ Ex HL Hj ∧ ∃ acc, Hj D = some (.lst acc) ∧ RepL (wo (reg [] H Hj) D) acc ((row.take (i + 1)).map fun p => dI p.1), fun Hj q => ⟨kvs.length - (i + 1), by omega, rfl, q⟩, fun y H2 q => ?_⟩
    obtain ⟨rfl, ks, v, q, hkv, rfl, hq⟩ := q
    refine ⟨wipe_one.trans wipe_wipe, ?_⟩
    unfold tYes
    dsimp only
    rw [if_pos rfl]
    have hp : row[i]? = some (row[i]'(by rw [← hle]; exact hlt)) := List.getElem?_eq_getElem _
    generalize row[i]'(by rw [← hle]; exact hlt) = p at hp
    have hk : ks = kI p.1 := by
      have := congrArg (fun l => l[i]?) k2
      simp only [List.getElem?_map, hkv, hp, Option.map_some] at this
      exact Option.some.inj this
    rw [hk, kI_kV] at hq
    refine ⟨q, p.1, ?_, hq, fun l hl => ⟨acc, ?_, ?_, hlt, ?_, acc ++ [.ref l], upd_same, ?_⟩⟩
    · have hw : j < (wipe σ [j]).length := by rw [wipe_length]; exact hjσ
      exact List.getElem?_set_self hw
    · rw [upd_ne fun z => by rw [z, hl] at hacc; cases hacc]; exact hacc
    · have := racc.length
      rw [this, List.length_map, List.length_take]
      have h4 : 1000000 < sizeLine := by decide
      omega
    · intro a o z
      have hne : a ≠ D := fun w => by rw [w, hD] at z; cases z
      rw [upd_ne hne]
      exact Ex.new hl _ _ (ex _ _ z)
    · have hlD : l ≠ D := fun z => by rw [z, hacc] at hl; cases hl
      have up : Ex (wo (reg [] H H2) D) (wo (reg [] H (upd (upd H2 l (.lst (p.1.map V.int))) D (.lst (acc ++ [V.ref l])))) D) := fun a o z => by
        have hne : a ≠ D := fun w => by rw [w] at z; unfold wo at z; rw [if_pos rfl] at z; cases z
        rw [wo_ne hne] at z ⊢
        obtain ⟨z1, z2, z3, z4⟩ := reg_some4 z
        exact reg_has z1 z2 (by rw [upd_ne hne]; exact Ex.new hl _ _ z3) z4
      rw [take_succ_get hp, List.map_append]
      refine (racc.mono up).append (.cons (.lst (vs := p.1.map V.int) ?_ (RepL.ints p.1)) .nil)
      rw [wo_ne hlD]
      exact reg_has (by simp) (hn _ (Ex.free ex hl)) (by rw [upd_ne hlD, upd_same]) trivial
  · have e : i = kvs.length := by omega
    subst e
    refine .inl ⟨⟨hid, Nat.le_refl _⟩, hid, ?_⟩
    have hDd : D ≠ d := fun z => by rw [z, hLd] at hD; cases hD
    have exH : Ex H (upd Hi d (.dT kvs)) := fun a o z => by
      by_cases q : a = d
      · rw [q, upd_same, ← k1, ← q]; exact z.symm ▸ rfl
      · rw [upd_ne q]
        exact ex _ _ (by rw [hLn a q]; exact z)
    refine h.2 _ _ exH ?_
    rw [hle, List.take_length] at racc
    have h0 := h.1.dom
    have up : Ex (reg [] H Hi) (rg 3 (Z.O σ Γ) Z.h0 H (upd Hi d (.dT kvs))) := fun a o z => by
      obtain ⟨z1, z2, z3, z4⟩ := reg_some4 z
      have hne : a ≠ d := fun w => by rw [w, k1] at z2; cases z2
      exact reg_has (fun w => h0 a w z2) z2 (by rw [upd_ne hne]; exact z3) z4
    refine .lst (vs := acc) ?_ ((racc.mono fun a o z => by
      have hne : a ≠ D := fun w => by rw [w] at z; unfold wo at z; rw [if_pos rfl] at z; cases z
      rw [wo_ne hne] at z; exact z).mono up)
    exact up _ _ (reg_has (by simp) (hn _ hD) hacc trivial)
/-- a new list of known values -/
def tRL (Z : Fr) (Γ : List SV) (vs : List V) : TE := fun σ H Q => Holds Z σ H Γ ∧ ∀ p H', Ex H H' → H p = none → H' p = some (.lst vs) → Q (.ref p) H'
/-- t[:k] -/
theorem r_cut {hi : Expr} {p2 : Pos} (k : Nat) (hg : gTb mt tl td rows ∈ Z.gs) (he : PE X e (tR Z Γ (.ref tl))) (hh : PE X hi (tD Z Γ m (.int (k : Int)))) : PE X (.Subscript e (.Slice none (some hi) none p2) pos) (tRL Z Γ ((td.take k).map V.ref)) :=
  pe_imp (pe_slice sl_list he (o_none (Z := Z) (Γ := Γ)) (o_some hh)) fun σ H Q h => ⟨h.1, fun H1 e1 => ⟨h.1.grow e1, fun H2 e2 => ⟨h.1.grow (e1.trans e2), fun H3 e3 => by
    have e03 := e1.trans (e2.trans e3)
    have hl := (only_some ((h.1.grow e03).tabAt hg).1).2
    refine ⟨_, _, rfl, .of hl, fun p hp => h.2 p _ (e03.trans (Ex.new hp)) (Ex.free e03 hp) ?_⟩
    rw [upd_same]
    unfold cutV
    rw [HT.sIx_none, HT.sIx_nat, Nat.sub_zero, List.drop_zero, ← List.map_take, List.length_map]
    rcases Nat.le_total k td.length with q | q
    · rw [Nat.min_eq_left q]
    · rw [Nat.min_eq_right q, List.take_of_length_le (Nat.le_refl _), List.take_of_length_le q]⟩⟩⟩
/-- [elt for x in a new list of known values] -/
theorem d_lcR {x : Str} {xp : Pos} {vs : List V} {f : Nat → D} {me : Nat} (j : Nat) (hi : PE X iter (tRL Z Γ vs)) (own : List (Str × Nat)) (hg : ∀ (s : Shared) (H' : Hp) (C : Addr) (cl : List (Str × Addr)) (fp : List Addr), PG (blkX X scope s H' C cl fp) (.Name x xp) (gP X.K (.nm j)))
    (turn : ∀ (i : Nat) (v : V) (Z' : Fr), vs[i]? = some v → Z'.h0 = Z.h0 ∧ Z'.gs = Z.gs → ∀ (s : Shared) (H' : Hp) (C : Addr) (cl : List (Str × Addr)) (fp : List Addr), PE (blkX X scope s H' C cl fp) elt (tD Z' ((wipeG Γ (own.map (·.2))).set j (.raw v)) me (f i)))
    (hlen : vs.length ≤ 1000000) (hN : X.N.Nodup) (ok : BlkOk X.N X.env.scope scope own) (hc : X.calm = true := by rfl) (hme : 1 ≤ me := by decide) (hz : noz Γ = true := by rfl) (hno : nown Γ (own.map (·.2)) = true := by rfl) (hj : j ∈ own.map (·.2) := by decide) (hs : ∀ x, foldedSetIterable iter X.env x = pure x := by intro _; rfl) :
    PE X (.ListComp elt [⟨.Name x xp, iter, [], 0⟩] scope pos) (tD Z Γ me (.lst ((List.range vs.length).map f))) := by
  refine pe_imp (pe_lc (tt := tYes) hc hN (pi_list hi) ok hg (fun s H C cl fp => pts_nil) (fun s H C cl fp => tEs_ok s H C cl fp) hs) fun σ H Q h => ?_
  generalize hvs : own.map (·.2) = ws at *
  refine ⟨h.1, fun p H1 e1 hp1 hp => ⟨p, rfl, ⟨vs, .of hp⟩, fun D hD => ?_⟩⟩
  have h1 := h.1.grow e1
  have hw := (h1.hide (o := .lst []) hD).wipe ws
  generalize hZ : ({ Z with ex := D :: Z.ex } : Fr) = Z' at hw
  have hZ0 : Z'.h0 = Z.h0 := by rw [← hZ]
  have hDex : D ∈ Z'.ex := by rw [← hZ]; exact List.mem_cons_self
  have hZg : Z'.gs = Z.gs := by rw [← hZ]
  have hDg : ∀ g ∈ Z.gs, D ∉ g.as := fun g hg z => (h1.exd D ((h1.gok g hg).1 D z)).1 hD
  have eO : owns (wipe σ ws) (wipeG Γ ws) = owns σ Γ := owns_wipe ws hno
  have hHD : H D = none := Ex.free e1 hD
  have hpD : p ≠ D := fun z => by rw [z, hD] at hp; cases hp
  refine ⟨fun i n Hi => n = vs.length - i ∧ i ≤ vs.length ∧ Holds Z' (wipe σ ws) Hi (wipeG Γ ws) ∧ Ex H Hi ∧ Hi p = some (.lst vs) ∧ ∃ acc, Hi D = some (.lst acc) ∧ RepL (rg me (Z'.O (wipe σ ws) (wipeG Γ ws)) Z.h0 H Hi) acc ((List.range i).map f),
    ⟨vs.length, by simp, Nat.zero_le _, hw, e1.trans (Ex.new hD), Ex.new hD _ _ hp, [], upd_same, .nil⟩, ?_⟩
  rintro i n Hi ⟨rfl, hi', p', hx, hpi, acc, hacc, racc⟩
  by_cases hlt : i < vs.length
  · have gi : vs[i]? = some vs[i] := List.getElem?_eq_getElem hlt
    refine .inr ⟨⟨vs, vs[i], .of hpi, gi⟩, fun Hj => i + 1 ≤ vs.length ∧ Holds Z' (wipe σ ws) Hj (wipeG Γ ws) ∧ Ex H Hj ∧ Hj p = some (.lst vs) ∧ ∃ acc, Hj D = some (.lst acc) ∧ RepL (rg me (Z'.O (wipe σ ws) (wipeG Γ ws)) Z.h0 H Hj) acc ((List.range (i + 1)).map f), fun Hj q => ⟨vs.length - (i + 1), by omega, rfl, q⟩, fun y H2 q => ?_⟩
    obtain ⟨rfl, q⟩ := q
    have q := q vs (.of hpi)
    rw [gi] at q
    cases q
    refine ⟨(wipe_set hj _).trans wipe_wipe, ?_⟩
    unfold tYes
    dsimp only
    rw [if_pos rfl]
    have p2 := p'.raw j vs[i]
    have eO1 : Z'.O ((wipe σ ws).set j (some vs[i])) ((wipeG Γ ws).set j (.raw vs[i])) = Z'.O (wipe σ ws) (wipeG Γ ws) := congrArg (Z'.ex ++ ·) (owns_set_eq j _ _ (fun _ _ z => by cases z) (nown_at (nown_wipe hno ws) hj))
    refine fun s0 H0' C cl fp => ⟨_, turn i vs[i] Z' gi ⟨hZ0, hZg⟩ s0 H0' C cl fp, p2, fun v H4 e4 rv => ?_⟩
    rw [eO1, hZ0] at rv
    refine ⟨acc, e4 _ _ hacc, ?_, hlt, (p'.grow e4).turnEx hDex (noz_wipe hz ws) (by rw [hZg]; exact hDg), fun a o q => ?_, by rw [upd_ne hpD]; exact e4 _ _ hpi, acc ++ [v], upd_same, ?_⟩
    · have := racc.length
      rw [this, List.length_map, List.length_range]
      have h4 : 1000000 < sizeLine := by decide
      omega
    · rw [upd_ne (ne_of_none q hHD)]
      exact e4 _ _ (hx _ _ q)
    · have hDO : D ∈ Z'.O (wipe σ ws) (wipeG Γ ws) := List.mem_append_left _ hDex
      rw [List.range_succ, List.map_append]
      refine RepL.append ((racc.mono (rg_ex (fun _ z => .inl z) (Ex.refl _) e4)).mono (rg_mut hme hDO)) (.cons ?_ .nil)
      exact (rv.mono (rg_ex (fun _ z => .inl z) hx (Ex.refl _))).mono (rg_mut hme hDO)
  · have e : i = vs.length := by omega
    subst e
    refine .inl ⟨⟨vs, .of hpi, Nat.le_refl _⟩, h.2 (.ref D) Hi hx ?_⟩
    have hDO : D ∉ Z.O σ Γ := fun z => h1.dom D z hD
    refine .lst (vs := acc) ?_ (racc.mono (rg_ex (fun a z => .inl ?_) (Ex.refl _) (Ex.refl _)))
    · match me, hme with
      | 1, _ => show reg _ hn Hi D = _; exact reg_has hDO rfl hacc trivial
      | 2, _ => show reg _ Z.h0 Hi D = _; exact reg_has hDO (Ex.free h1.h0x hD) hacc trivial
      | _ + 3, _ => show reg _ H Hi D = _; exact reg_has hDO hHD hacc trivial
    · rcases List.mem_append.mp z with z | z
      · refine List.mem_append_left _ ?_
        rw [← hZ]; exact List.mem_cons_of_mem _ z
      · refine List.mem_append_right _ ?_
        rw [eO]; exact z
end
end DL

set_option Elab.async false
set_option linter.all false
set_option maxRecDepth 100000
/-! DL25: instances of the text's classes: made, read, their methods called. -/
namespace DL
open PySem L2
section
variable {Z : Fr} {H H' : Hp} {σ : L2.St} {Γ : List SV} {j : Nat} {g g' : GS} {p : Addr} {o : HO}
/-- one hidden thing is changed -/
theorem Holds.turn1 (h : Holds Z σ H Γ) (hj : Z.gs[j]? = some g) (has : g'.as = g.as) (hp : p ∈ g.as) (hz : noz Γ = true) (hn : GOk Z.h0 (Z.O σ Γ) Z.ex (upd H p o) g') : Holds { Z with gs := Z.gs.set j g' } σ (upd H p o) Γ := by
  have hg : g ∈ Z.gs := List.mem_of_getElem? hj
  have hx : p ∈ Z.ex := (h.gok _ hg).1 _ hp
  have hjl : j < Z.gs.length := (List.getElem?_eq_some_iff.mp hj).1
  have hjg : Z.gs[j] = g := by
    have := List.getElem?_eq_getElem hjl
    rw [hj] at this; exact (Option.some.inj this).symm
  refine h.turn hx hz (fun g2 hgm => ?_) ?_
  · obtain ⟨n, hn', rfl⟩ := List.mem_iff_getElem.mp hgm
    rw [List.getElem_set]
    split
    · exact hn
    · rename_i hjn
      rw [List.length_set] at hn'
      refine (h.gok _ (List.getElem_mem hn')).mut (List.mem_append_left _ hx) fun w => ?_
      have ap := h.gap
      rcases Nat.lt_or_gt_of_ne hjn with q | q
      · have z := List.pairwise_iff_getElem.mp ap j n hjl hn' q
        rw [hjg] at z
        exact z _ hp w
      · have z := List.pairwise_iff_getElem.mp ap n j hn' hjl q
        rw [hjg] at z
        exact z _ w hp
  · have ap := h.gap
    refine List.pairwise_iff_getElem.mpr fun n1 n2 q1 q2 q => ?_
    rw [List.length_set] at q1 q2
    have z := List.pairwise_iff_getElem.mp ap n1 n2 q1 q2 q
    rw [List.getElem_set, List.getElem_set]
    split
    · rename_i w1
      subst w1
      rw [hjg] at z
      split
      · rename_i w2; omega
      · rw [has]; exact z
    · split
      · rename_i w2
        subst w2
        rw [hjg] at z
        rw [has]; exact z
      · exact z
end
/-- the instance at x -/
def gObj (mt : Nat) (x C dx : Addr) (ns : List Str) (ds : List D) : GS where
  as := [x]
  m := mt
  P := fun R O => ∃ fs : List (Str × V), O x = some (.ins C dx fs) ∧ fs.map (·.1) = ns ∧ RepL R (fs.map (·.2)) ds
  mono := fun e h => by
    obtain ⟨fs, h1, h2, h3⟩ := h
    exact ⟨fs, h1, h2, h3.mono e⟩
/-- an __init__'s promise -/
def PurI {α : Type} (C : Addr) (arg : α → List D) (pre : α → Prop) (ns : List Str) (res : α → List D) : Sp := fun vs H Q _ => ∃ a x dx ws, vs = .ref x :: ws ∧ H x = some (.ins C dx []) ∧ RepL (wo H x) ws (arg a) ∧ pre a ∧
  ∀ H' fs, Ex (wo H x) H' → H' x = some (.ins C dx fs) → fs.map (·.1) = ns → RepL (reg [x] H H') (fs.map (·.2)) (res a) → Q .non H'
abbrev frI (H : Hp) (x C dx : Addr) (ns : List Str) (ds : List D) : Fr := { h0 := wo H x, ex := [x], gs := [gObj 2 x C dx ns ds] }
theorem wo_le {H : Hp} {x : Addr} : Ex (wo H x) H := fun a o e => by
  unfold wo at e
  split at e
  · cases e
  · exact e
theorem holds_startI {N : List Str} {ws : List V} {ds : List D} {H : Hp} {x C dx : Addr} (hx : H x = some (.ins C dx [])) (r : RepL (wo H x) ws ds) (Γ : List SV) (hN : ds.length + 1 ≤ N.length) (hΓ : Γ = .raw (.ref x) :: (ds.map (SV.dat 1) ++ List.replicate (N.length - (ds.length + 1)) .any)) : Holds (frI H x C dx [] []) (L2.start N (.ref x :: ws)) H Γ := by
  have hlen := r.length
  have no : owns (L2.start N (.ref x :: ws)) Γ = [] := by
    apply List.eq_nil_iff_forall_not_mem.mpr
    intro a ha
    obtain ⟨i, m, es, q1, q2⟩ := mem_owns.mp ha
    rw [hΓ] at q2
    cases i with
    | zero => cases q2
    | succ i =>
      rw [List.getElem?_cons_succ] at q2
      by_cases hi : i < ds.length
      · rw [List.getElem?_append_left (by rw [List.length_map]; exact hi), List.getElem?_map, List.getElem?_eq_getElem hi] at q2
        cases q2
      · rw [List.getElem?_append_right (by rw [List.length_map]; omega), List.getElem?_replicate] at q2
        split at q2 <;> cases q2
  have eO : (frI H x C dx [] []).O (L2.start N (.ref x :: ws)) Γ = [x] := by
    show [x] ++ owns _ _ = _
    rw [no]; rfl
  refine ⟨fun B hB => ?_, fun l hl => ?_, ?_, by rw [no]; exact List.nodup_nil, fun i o sv e1 e2 => ?_, fun g hg => ?_, List.pairwise_singleton _ _, fun B hB => absurd hB (by simp)⟩
  · rcases hB with z | z
    · rw [z, eO]
      exact ⟨wo_le, fun l hl => by rw [List.mem_singleton.mp hl]; show wo H x x = none; unfold wo; rw [if_pos rfl]⟩
    · cases z
  · rw [List.mem_singleton.mp hl, no]
    exact ⟨by rw [hx]; simp, by simp⟩
  · rw [hΓ]
    unfold L2.start
    simp only [List.length_append, List.length_map, List.length_replicate, List.length_cons]
    omega
  · rw [eO]
    rw [hΓ] at e2
    have ev : ∀ k (hk : k < (V.ref x :: ws).length), (L2.start N (.ref x :: ws))[k]? = some (some (V.ref x :: ws)[k]) := fun k hk => by
      unfold L2.start
      rw [List.getElem?_append_left (by rw [List.length_map]; exact hk), List.getElem?_map, List.getElem?_eq_getElem hk]; rfl
    cases i with
    | zero =>
      cases e2
      rw [ev 0 (by simp)] at e1
      cases e1
      rfl
    | succ i =>
      rw [List.getElem?_cons_succ] at e2
      by_cases hi : i < ds.length
      · rw [List.getElem?_append_left (by rw [List.length_map]; exact hi), List.getElem?_map, List.getElem?_eq_getElem hi] at e2
        cases e2
        rw [ev (i + 1) (by simp; omega)] at e1
        cases e1
        obtain ⟨d, hd, rr⟩ := r.get (List.getElem?_eq_getElem (show i < ws.length by omega))
        rw [List.getElem?_eq_getElem hi] at hd
        cases hd
        refine ⟨_, rfl, rr.nt.mono fun a o q => ?_⟩
        obtain ⟨q1, q2⟩ := nt_some q
        show reg [x] hn H a = _
        have hne : a ≠ x := fun z => by rw [z] at q1; unfold wo at q1; rw [if_pos rfl] at q1; cases q1
        exact reg_has (by simpa using hne) rfl (wo_le _ _ q1) q2
      · rw [List.getElem?_append_right (by rw [List.length_map]; omega), List.getElem?_replicate] at e2
        split at e2
        · cases e2; trivial
        · cases e2
  · rw [List.mem_singleton.mp hg]
    exact ⟨fun a ha => ha, (show 1 ≤ 2 by decide), [], by show only [x] H x = _; rw [only_at (List.mem_singleton.mpr rfl)]; exact hx, rfl, .nil⟩
section
variable {P : Program} {w : World} {K : PySem.W.Frag} {mg : Str → Option Value} {base : Heap}
theorem Fun.purI {α : Type} {x qual : Str} {st : Stmt} {f C : Addr} {fd : FuncData} {N ps : List Str} {k : Nat} {arg : α → List D} {pre : α → Prop} {ns : List Str} {res : α → List D} (F : Fun K x qual st f fd) (S : FnScope N ps (defScope st)) (len : ∀ a, (arg a).length + 1 = ps.length) (hN : ps.length ≤ N.length)
    (hbody : ∀ (cdv : Value) (A : Around) (outer : List Env) (s : Shared) (H : Hp) (σ : L2.St) (E : XK) (Q : VK) (a : α) (x dx : Addr), Room k (A.deeper (PyProof.Rows.envOfC qual (defScope st) s.heap.objs.size f cdv)) → pre a →
      Holds (frI H x C dx [] []) σ H (.raw (.ref x) :: ((arg a).map (SV.dat 1) ++ List.replicate (N.length - ps.length) .any)) → (∀ σ' H' Γ', Holds (frI H x C dx ns (res a)) σ' H' Γ' → Q .non H') →
      wp (cxOf CX0 P w K mg base N qual (defScope st) f cdv A outer s H E).nox (defBody st) { nx := fun _ H' => Q .non H', rt := Q } σ H) : FnOk P w K mg base CX0 (k + 1) f fd ps (PurI C arg pre ns res) := by
  refine F.ok S (fun vs H Q E h => ?_) fun cdv A outer s H vs Q E hr h => ?_
  · obtain ⟨a, x, dx, ws, rfl, _, r, _⟩ := h
    rw [List.length_cons, r.length, len]
  · obtain ⟨a, x, dx, ws, rfl, hx, r, hp, q⟩ := h
    refine hbody cdv A outer s H (L2.start N (.ref x :: ws)) E Q a x dx hr hp (holds_startI hx r _ (by rw [len]; exact hN) (by rw [len])) fun σ' H' Γ' h' => ?_
    obtain ⟨fs, q1, q2, q3⟩ := (h'.gok _ List.mem_cons_self).2.2
    refine q H' fs h'.h0x (only_some q1).2 q2 (q3.mono fun b o z => ?_)
    obtain ⟨z1, z2, z3, z4⟩ := reg_some4 z
    have hxO : x ∈ (frI H x C dx ns (res a)).O σ' Γ' := List.mem_append_left _ (List.mem_singleton.mpr rfl)
    have hne : b ≠ x := fun e => z1 (by rw [e]; exact hxO)
    refine reg_has (by simpa using hne) ?_ z3 z4
    have z2 : wo H x b = none := z2
    rw [wo_ne hne] at z2; exact z2
end
section
variable {X : Cx} {e a b o value : Expr} {pos pos' : Pos} {Z : Fr} {Γ : List SV} {m ma mb mt i j k : Nat} {d : D} {ds es xs : List D} {σ : L2.St} {H H' : Hp} {rest : List Stmt} {E : Ends} {v : V} {x C dx : Addr} {ns : List Str} {f : Str}
theorem putF_new {f : Str} {v : V} : ∀ {fs : List (Str × V)}, f ∉ fs.map (·.1) → putF f v fs = fs ++ [(f, v)]
  | [], _ => rfl
  | (g, y) :: r, h => by
    have h1 : g ≠ f := fun z => h (by rw [z]; exact List.mem_cons_self)
    have h2 : f ∉ r.map (·.1) := fun z => h (List.mem_cons_of_mem _ z)
    unfold putF
    rw [if_neg h1, putF_new h2]; rfl
/-- self.f = value, a new field -/
theorem w_fld (j : Nat) (hj : Z.gs[j]? = some (gObj mt x C dx ns ds)) (ho : PE X o (tR Z Γ (.ref x))) (he : PE X value (tD Z Γ ma d)) (c : Cls X.K C) (n : NoAttr X.K C f) (h : Holds Z σ H Γ) (k : ∀ H', Holds { Z with gs := Z.gs.set j (gObj mt x C dx (ns ++ [f]) (ds ++ [d])) } σ H' Γ → wp X rest E σ H')
    (hf : f ∉ ns := by decide) (hl : ns.length < 1000 := by decide) (hma : mt ≤ ma := by decide) (hm1 : 1 ≤ mt := by decide) (hm2 : mt ≤ 2 := by decide) (hz : noz Γ = true := by rfl) (hs : swapsWith value (some (.Attribute o f pos')) pos.line X.env = pure false := by rfl) : wp X (.Assign [.Attribute o f pos'] value pos :: rest) E σ H :=
  wp_cons (ps_fld ho he hs) ⟨h, fun v H1 e1 rv => ⟨h.grow e1, fun H2 e2 => by
    have hg := List.mem_of_getElem? hj
    have h2 := h.grow (e1.trans e2)
    obtain ⟨g1, g2, fs, q1, q2, q3⟩ := h2.gok _ hg
    have q1 := (only_some q1).2
    have q3 : RepL (rg mt (Z.O σ Γ) Z.h0 Z.h0 H2) (fs.map (·.2)) ds := q3
    have hxm : x ∈ (gObj mt x C dx ns ds).as := List.mem_singleton.mpr rfl
    have hxO : x ∈ Z.O σ Γ := List.mem_append_left _ (g1 x hxm)
    have hlen : fs.length = ns.length := by rw [← q2, List.length_map]
    refine ⟨x, C, dx, fs, rfl, q1, c, n, by rw [hlen]; exact hl, ?_⟩
    rw [putF_new (by rw [q2]; exact hf)]
    refine k _ (h2.turn1 hj rfl hxm hz ⟨g1, hm1, fs ++ [(f, v)], ?_, by rw [List.map_append, q2]; rfl, ?_⟩)
    · show only [x] _ x = _
      rw [only_at (List.mem_singleton.mpr rfl), upd_same]
    · have up := rg_mut (H0 := Z.h0) (Hs := Z.h0) (H := H2) (o' := .ins C dx (fs ++ [(f, v)])) hm1 hxO
      have rv' : Rep (rg mt (Z.O σ Γ) Z.h0 Z.h0 H2) v d := (by have q := rv.mono (rg_down hma h.h0x); rw [rg_same hm2] at q; exact q : Rep (rg mt (Z.O σ Γ) Z.h0 Z.h0 H1) v d).mono (rg_ex (fun _ z => .inl z) (Ex.refl _) e2)
      rw [List.map_append]
      exact (q3.mono up).append (.cons (rv'.mono up) .nil)⟩⟩
theorem fld_at {R : Hp} : ∀ {fs : List (Str × V)} {ns : List Str} {ds : List D} {f : Str} {d : D}, fs.map (·.1) = ns → RepL R (fs.map (·.2)) ds → (ns.zip ds).lookup f = some d → ∃ v, fs.lookup f = some v ∧ Rep R v d
  | [], ns, ds, f, d, h1, h2, h3 => by
    rw [← h1] at h3; cases h3
  | (g, y) :: fs, ns, ds, f, d, h1, h2, h3 => by
    subst h1
    cases h2 with
    | cons r1 r2 =>
      rename_i d1 ds1
      rw [List.map_cons, List.zip_cons_cons, List.lookup_cons] at h3
      rw [List.lookup_cons]
      cases q : f == g with
      | true =>
        simp only [q] at h3 ⊢
        cases h3
        exact ⟨y, rfl, r1⟩
      | false =>
        simp only [q] at h3 ⊢
        exact fld_at rfl r2 h3
theorem lookup_no {fs : List (Str × V)} {m : Str} (h : m ∉ fs.map (·.1)) : fs.lookup m = none := by
  induction fs with
  | nil => rfl
  | cons p fs ih =>
    obtain ⟨g, y⟩ := p
    rw [List.lookup_cons]
    have h1 : (m == g) = false := beq_eq_false_iff_ne.mpr fun z => h (by rw [z]; exact List.mem_cons_self)
    rw [h1]
    exact ih fun z => h (List.mem_cons_of_mem _ z)
/-- o.f of a datum -/
theorem d_fld (he : PE X e (tD Z Γ m (.obj C ns ds))) (c : Cls X.K C) (n : NoAttr X.K C f) (hf : (ns.zip ds).lookup f = some d) (hb : attributeBase e f X.env (eval e X.env) = eval e X.env := by rfl) : PE X (.Attribute e f pos) (tD Z Γ m d) :=
  pe_imp (pe_fld he hb) fun σ H Q h => ⟨h.1, fun v H1 e1 r => by
    cases r with
    | obj h1 h2 h3 =>
      obtain ⟨v, q1, q2⟩ := fld_at h2 h3 hf
      exact ⟨_, C, _, _, v, rfl, rg_le _ _ h1, c, n, q1, h.2 v H1 e1 q2⟩⟩
/-- o.m(..) of a datum -/
theorem d_meth {qual : Str} {st : Stmt} {ps : List Str} {mm : Str} {k j : Nat} {sp : Sp} {es : List Expr} {apos : Pos} {pl : Sem Bool} (M : Mth X.K C mm qual st ps) (c : Cls X.K C) (F : FnOk X.prog X.w X.K X.mg X.base CX0 k M.f M.fd ps sp) (hr : Room j X.A) (hG : Gives sp (.obj C ns ds :: xs) d) (he : PE X o (tD Z Γ mb (.obj C ns ds))) (ha : PA X (e :: es) (tDA Z Γ ma xs)) (hk : k ≤ j := by decide) (hm : mm ∉ ns := by decide)
    (hst : starEach (e :: es) X.env = (false, eval e X.env) :: starEach es X.env := by rfl) (hpl : (backTo pos (starEach es X.env)).any (·.1) = false := by rfl)
    (ht : eval (.Call (.Attribute o mm apos) (e :: es) [] pos) X.env = (do
      let ov ← eval o X.env
      standAt apos.atName
      let (f, first) ← holding [ov] (getMethod ov mm pl)
      callWith pos f first (backTo pos (starEach (e :: es) X.env)) (backToKw pos (keywordEach [] X.env))) := by rfl) : PE X (.Call (.Attribute o mm apos) (e :: es) [] pos) (tD Z Γ 3 d) :=
  pe_imp (pe_meth he c M.m F (hr.mono hk) M.b .nil pass0 ha hst hpl ht) fun σ H Q h => ⟨h.1, fun v H1 e1 r => by
    have r0 := r.mono rg_le
    cases r0 with
    | obj h1 h2 h3 =>
      refine ⟨_, _, _, rfl, h1, lookup_no (by rw [h2]; exact hm), h.1.grow e1, fun vs H2 e2 r2 => hG _ H2 Q _ ?_ fun v H3 e3 k => h.2 v H3 (e1.trans (e2.trans e3)) (k.mono (rg_fresh (h.1.grow (e1.trans e2)).dom (h.1.grow (e1.trans e2)).h0x (e1.trans e2)))⟩
      rw [List.append_nil]
      exact .cons (.obj (e2 _ _ h1) h2 (h3.mono e2)) (r2.mono rg_le)⟩
/-- C(..), a new instance -/
theorem d_make {α : Type} {arg : α → List D} {pre : α → Prop} {res : α → List D} {xn qual : Str} {st : Stmt} {ps : List Str} {k j : Nat} {es : List Expr} {p : Pos} (O : ClsX X.K X.mg xn) (I : Ini X.K O.C qual st ps) (F : FnOk X.prog X.w X.K X.mg X.base CX0 k I.f I.fd ps (PurI O.C arg pre ns res)) (hr : Room j X.A) (v : α) (hv : pre v)
    (ha : PA X (e :: es) (tDA Z Γ ma (arg v))) (hk : k + 1 ≤ j := by decide) (hg : Gl X xn := by rfl) (hdb : (xn == ("__debug__" : Str)) = false := by decide) (he : starEach (e :: es) X.env = (false, eval e X.env) :: starEach es X.env := by rfl) (hpl : (backTo pos (starEach es X.env)).any (·.1) = false := by rfl) :
    PE X (.Call (.Name xn p) (e :: es) [] pos) (tD Z Γ 3 (.obj O.C ns (res v))) :=
  pe_imp (pe_make I.mkr F (hr.mono hk) hg O.g I.b .nil pass0 ha hdb he hpl) fun σ H Q h => ⟨h.1, fun vs H1 e1 r1 x dx hx hdx hne => by
    have h1 := h.1.grow e1
    rw [List.append_nil]
    generalize hM : upd (upd H1 dx (.own x)) x (.ins O.C dx []) = Hm
    have hmx : Hm x = some (.ins O.C dx []) := by rw [← hM]; exact upd_same
    have up : ∀ a o, H1 a = some o → Hm a = some o := fun a o z => by rw [← hM]; exact (Ex.new (by rw [upd_ne (Ne.symm hne)]; exact hx)) _ _ (Ex.new hdx _ _ z)
    refine ⟨v, x, dx, vs, rfl, hmx, r1.mono fun a o z => ?_, hv, fun H2 fs q1 q2 q3 q4 => ⟨rfl, ?_⟩⟩
    · have z1 := rg_le _ _ z
      rw [wo_ne (ne_of_none z1 hx)]
      exact up _ _ z1
    · have ex : Ex H1 H2 := fun a o z => q1 a o (by rw [wo_ne (ne_of_none z hx)]; exact up _ _ z)
      have hxO : x ∉ Z.O σ Γ := fun z => h1.dom x z hx
      refine h.2 _ _ (e1.trans ex) (.obj (a := x) (dx := dx) (fs := fs) (reg_has hxO (Ex.free e1 hx) q2 trivial) q3 (q4.mono fun a o z => ?_))
      obtain ⟨z1, z2, z3, z4⟩ := reg_some4 z
      have hn : H1 a = none := by
        cases q : H1 a with
        | none => rfl
        | some u => rw [up _ _ q] at z2; cases z2
      exact reg_has (fun w => h1.dom a w hn) (Ex.free e1 hn) z3 z4⟩
end
end DL

set_option Elab.async false
set_option linter.all false
set_option maxRecDepth 100000
/-! DL26: data in lists of data; enumerate. -/
namespace DL
open PySem L2
theorem u65 {k : Nat} {A : Around} (r : Room k A) : A.units + 65 < cLine := by have := r.un; omega
section
variable {X : Cx} {e a b : Expr} {pos : Pos} {Z : Fr} {Γ : List SV} {m ma mb i j k : Nat} {d da db : D} {ds es xs ys : List D} {tg : Expr}
def memD (d : D) (ys : List D) : Bool := ys.any fun z => deq z d
theorem memD_py (d : D) (ys : List D) : ((toPyL ys).any fun z => PyData.eqv z (toPy d)) = memD d ys := by
  unfold memD
  induction ys with
  | nil => rfl
  | cons y ys ih =>
    unfold toPyL
    rw [List.any_cons, List.any_cons, ih]; rfl
theorem rInD_hr {K : PySem.W.Frag} (h1 : eqOk da = true) (h2 : eqOk (.lst ys) = true) : ∀ (H : Hp) (x y : V) (Q : VK), Rep H x da → Rep H y (.lst ys) → Q (.bl (memD da ys)) H → rInD K x y H Q := fun H x y Q r1 r2 q => by
  obtain ⟨p1, s1⟩ := Bool.and_eq_true_iff.mp h1
  obtain ⟨p2, s2⟩ := Bool.and_eq_true_iff.mp h2
  exact ⟨_, _, r1.dp p1, r2.dp p2, s1, s2, by rw [memD_py]; exact q⟩
theorem rNotInD_hr {K : PySem.W.Frag} (h1 : eqOk da = true) (h2 : eqOk (.lst ys) = true) : ∀ (H : Hp) (x y : V) (Q : VK), Rep H x da → Rep H y (.lst ys) → Q (.bl (!memD da ys)) H → rNotInD K x y H Q := fun H x y Q r1 r2 q => by
  obtain ⟨p1, s1⟩ := Bool.and_eq_true_iff.mp h1
  obtain ⟨p2, s2⟩ := Bool.and_eq_true_iff.mp h2
  exact ⟨_, _, r1.dp p1, r2.dp p2, s1, s2, by rw [memD_py]; exact q⟩
theorem t_inD (hu : X.A.units + 65 < cLine) (ha : PE X a (tD Z Γ ma da)) (hb : PE X b (tD Z Γ mb (.lst ys))) (h1 : eqOk da = true) (h2 : eqOk (.lst ys) = true) (hm : behindInMarks .In b = false := by rfl) : PT X (.Compare a [.In] [b] pos) (tDT Z Γ (memD da ys)) := t_cmpS (op_inD hu) (rInD_hr h1 h2) ha hb hm
theorem t_notInD (hu : X.A.units + 65 < cLine) (ha : PE X a (tD Z Γ ma da)) (hb : PE X b (tD Z Γ mb (.lst ys))) (h1 : eqOk da = true) (h2 : eqOk (.lst ys) = true) (hm : behindInMarks .NotIn b = false := by rfl) : PT X (.Compare a [.NotIn] [b] pos) (tDT Z Γ (!memD da ys)) := t_cmpS (op_notInD hu) (rNotInD_hr h1 h2) ha hb hm
theorem memD_ints (a : List Int) (L : List (List Int)) : memD (dI a) (L.map dI) = decide (a ∈ L) := by
  unfold memD
  rw [List.any_map]
  induction L with
  | nil => rfl
  | cons b L ih =>
    rw [List.any_cons, ih]
    show (deq (dI b) (dI a) || _) = _
    rw [deq_ints]
    by_cases h : b = a
    · rw [h]; simp
    · rw [decide_eq_false h, Bool.false_or]
      exact decide_eq_decide.mpr ⟨List.mem_cons_of_mem _, fun z => (List.mem_cons.mp z).resolve_left fun q => h q.symm⟩
/-- the items, counted -/
def enD : Nat → List D → List D
  | _, [] => []
  | i, x :: xs => .tup [.int (i : Int), x] :: enD (i + 1) xs
theorem enD_get {x : D} : ∀ {k i : Nat} {xs : List D}, (enD k xs)[i]? = some d → ∃ x, xs[i]? = some x ∧ d = .tup [.int ((k + i : Nat) : Int), x]
  | k, i, [], h => by unfold enD at h; simp at h
  | k, 0, x :: xs, h => by
    unfold enD at h
    exact ⟨x, rfl, (Option.some.inj h).symm⟩
  | k, i + 1, x :: xs, h => by
    unfold enD at h
    rw [List.getElem?_cons_succ] at h
    obtain ⟨y, h1, h2⟩ := enD_get (x := x) h
    exact ⟨y, by rw [List.getElem?_cons_succ]; exact h1, by rw [h2, show k + 1 + i = k + (i + 1) by omega]⟩
theorem enD_len : ∀ (k : Nat) (xs : List D), (enD k xs).length = xs.length
  | _, [] => rfl
  | k, x :: xs => by unfold enD; rw [List.length_cons, List.length_cons, enD_len (k + 1) xs]
theorem yields_enum {K : PySem.W.Frag} {B : Hp} {a : Addr} {vs : List V} (h : B a = some (.lst vs)) (r : RepL B vs xs) : Yields (Ite K a) B (enD 0 xs) := fun i H e => by
  refine ⟨fun d hd => ?_, fun hl => ⟨vs, .of (e _ _ h), by rw [enD_len] at hl; rw [r.length]; exact hl⟩⟩
  obtain ⟨x, hx, rfl⟩ := enD_get (x := .non) hd
  obtain ⟨v, hv, rv⟩ := r.getD hx
  refine ⟨⟨vs, v, .of (e _ _ h), hv⟩, fun z H' q => ?_⟩
  obtain ⟨T, x1, rfl, hT, rfl, q1⟩ := q
  have e1 := q1 vs (.of (e _ _ h))
  rw [hv] at e1; cases e1
  refine ⟨Ex.new hT, fun R' hb hn => .tup (hn _ _ (reg_has (by simp) hT upd_same trivial)) (.cons ?_ (.cons (rv.mono hb) .nil))⟩
  rw [Nat.zero_add]
  exact .int _
theorem i_enum {p tpos : Pos} {elts : List Expr} {kk : Nat} (hm : X.mg "enumerate" = none) (ha : PE X a (tD Z Γ ma (.lst xs))) (hma : ma ≤ 3 := by decide) (hg : Gl X "enumerate" := by rfl) (hs : starEach [a] X.env = [(false, eval a X.env)] := by rfl) (hs2 : starEach [a] X.env = (false, eval a X.env) :: starEach [] X.env := by rfl) :
    PI X (.Tuple elts kk tpos) (.Call (.Name "enumerate" p) [a] [] pos) (tI Z Γ ma (enD 0 xs)) :=
  pi_imp (pi_enum hg hm (a_cons ha a_nil hs2) hs) fun σ H R q => ⟨q.1, fun vs H1 e1 r => by
    rw [show min ma 3 = ma by omega] at r
    cases r with
    | cons r1 r2 =>
      cases r2
      cases r1 with
      | lst h1 k1 => exact ⟨_, _, rfl, .of (rg_le _ _ h1), q.2 _ H1 e1 (yields_enum h1 k1)⟩⟩
end
end DL

set_option Elab.async false
set_option linter.all false
set_option maxRecDepth 100000
/-! DL27: names set together, where tuples are read. -/
namespace DL
open PySem L2
abbrev SubF (Z0 Z : Fr) : Prop := Z.h0 = Z0.h0 ∧ (∀ g ∈ Z0.gs, g ∈ Z.gs) ∧ (NoTu Z0 → NoTu Z)
theorem SubF.refl {Z : Fr} : SubF Z Z := ⟨rfl, fun _ h => h, fun h => h⟩
theorem SubF.trans {A B C : Fr} (h : SubF A B) (k : SubF B C) : SubF A C := ⟨k.1.trans h.1, fun g hg => k.2.1 g (h.2.1 g hg), fun n => k.2.2 (h.2.2 n)⟩
/-- the list at l -/
def gL (l : Addr) (ws : List V) : GS where
  as := [l]
  m := 1
  P := fun _ O => O l = some (.lst ws)
  mono := fun _ h => h
theorem gL_ntu {l : Addr} {ws : List V} : (gL l ws).ntu := fun R O h a ha xs e => by
  rw [List.mem_singleton.mp ha, h] at e; cases e
theorem noTu_add {Z : Fr} {fs : List Hp} {l : Addr} {ws : List V} (h : NoTu Z) : NoTu { h0 := Z.h0, fs := fs, ex := l :: Z.ex, gs := Z.gs ++ [gL l ws] } := fun a ha => by
  rcases List.mem_cons.mp ha with z | z
  · exact ⟨gL l ws, List.mem_append_right _ (List.mem_singleton.mpr rfl), by rw [z]; exact List.mem_singleton.mpr rfl, gL_ntu⟩
  · obtain ⟨g, h1, h2⟩ := h a z
    exact ⟨g, List.mem_append_left _ h1, h2⟩
def EvN (X : Cx) (Z0 : Fr) (Γ : List SV) : List Expr → List As → Prop
  | [], [] => True
  | e :: es, a :: L => (∀ Z : Fr, SubF Z0 Z → PE X e (tD Z Γ a.mode a.d)) ∧ EvN X Z0 Γ es L
  | _, _ => False
theorem EvN.to {X : Cx} {Z Z' : Fr} {Γ : List SV} (e : SubF Z Z') : ∀ {es : List Expr} {L : List As}, EvN X Z Γ es L → EvN X Z' Γ es L
  | [], [], _ => trivial
  | [], _ :: _, h => h
  | _ :: _, [], h => h
  | _ :: _, _ :: _, h => ⟨fun Z2 h2 => h.1 Z2 (e.trans h2), EvN.to e h.2⟩
theorem parN_ok {X : Cx} : ∀ {L : List As} {es : List Expr} {Z : Fr} {σ : L2.St} {H : Hp} {Γ : List SV} {Q : List V → Hp → Prop}, EvN X Z Γ es L → L.all As.ok = true → Holds Z σ H Γ →
    (∀ vs H', Ex H H' → vs.length = L.length → Holds Z (setA σ L vs) H' (setG Γ L) → Q vs H') → tWs X es σ H Q
  | [], [], Z, σ, H, Γ, Q, _, _, h, q => q [] H (Ex.refl H) rfl h
  | [], _ :: _, _, _, _, _, _, h, _, _, _ => h.elim
  | _ :: _, [], _, _, _, _, _, h, _, _, _ => h.elim
  | a :: L, e :: es, Z, σ, H, Γ, Q, hE, hL, h, q => by
    obtain ⟨ha, hL'⟩ := Bool.and_eq_true_iff.mp (show (_ && _) = true from hL)
    refine ⟨_, hE.1 Z SubF.refl, h, fun v H1 e1 r => ?_⟩
    obtain ⟨ow, sl, md, d⟩ := a
    cases ow with
    | false =>
      have hm : 1 ≤ md := of_decide_eq_true ha
      generalize hB : rg md (Z.O σ Γ) Z.h0 H H1 = B at r
      have h1 : Holds { Z with fs := B :: Z.fs } σ H1 Γ := (h.grow e1).frame (by rw [← hB]; exact rg_le) (by rw [← hB]; exact rg_off hm) (by rw [← hB]; exact fun _ _ => rg_nt)
      refine parN_ok (Z := { Z with fs := B :: Z.fs }) (EvN.to (Z := Z) (Z' := { h0 := Z.h0, fs := B :: Z.fs, ex := Z.ex, gs := Z.gs }) ⟨rfl, fun _ h => h, fun h => h⟩ hE.2) hL' h1 fun vs H2 e2 hl h2 => q (v :: vs) H2 (e1.trans e2) (congrArg (· + 1) hl) ?_
      have rr : Rep (rg (min md 2) (Z.O (setA σ L vs) (setG Γ L)) Z.h0 Z.h0 H2) v d := r.mono (reg_later hm hB.symm h.h0x h2.stays (h2.ext B (.inr List.mem_cons_self)).2)
      exact h2.unframe.dat sl rr
    | true =>
      cases d with
      | lst ds =>
        have hm : 3 ≤ md := of_decide_eq_true ha
        have r3 : Rep (rg 3 (Z.O σ Γ) Z.h0 H H1) v (.lst ds) := r.mono (rg_down hm h.h0x)
        cases r3 with
        | lst hl hv =>
          rename_i l ws
          have r3 : Rep (rg 3 (Z.O σ Γ) Z.h0 H H1) (.ref l) (.lst ds) := .lst hl hv
          obtain ⟨n1, n2, n3⟩ := reg_some hl
          have hv' : RepL (wo (rg 3 (Z.O σ Γ) Z.h0 H H1) l) ws ds := RepL.wo r3 hv (by simp only [D.lst.sizeOf_spec]; omega)
          generalize hB : wo (rg 3 (Z.O σ Γ) Z.h0 H H1) l = B at hv'
          have hBs : ∀ a o, B a = some o → a ≠ l ∧ a ∉ Z.O σ Γ ∧ H a = none ∧ H1 a = some o ∧ ntb o := fun a o z => by
            rw [← hB] at z
            have hne : a ≠ l := fun q => by rw [q] at z; unfold wo at z; rw [if_pos rfl] at z; cases z
            rw [wo_ne hne] at z
            obtain ⟨z1, z2, z3, z4⟩ := reg_some4 z
            exact ⟨hne, z1, z2, z3, z4⟩
          have hBl : B l = none := by rw [← hB]; unfold wo; rw [if_pos rfl]
          -- l with its content stays as a frame of its own
          let Bl : Hp := fun b => if b = l then none else none
          have h1 : Holds { Z with ex := l :: Z.ex, gs := Z.gs ++ [gL l ws] } σ H1 Γ := h.addG (g := gL l ws) e1 (fun a ha => by rw [List.mem_singleton.mp ha]; exact ⟨n2, by rw [n3]; simp⟩) (Nat.le_refl _) (by show only [l] H1 l = _; rw [only_at (List.mem_singleton.mpr rfl)]; exact n3)
          have h1' : Holds { Z with fs := B :: Z.fs, ex := l :: Z.ex, gs := Z.gs ++ [gL l ws] } σ H1 Γ := h1.frame (Z := { Z with ex := l :: Z.ex, gs := Z.gs ++ [gL l ws] }) (fun a o z => (hBs a o z).2.2.2.1) (fun b hb => by
            cases z : B b with
            | none => rfl
            | some o =>
              obtain ⟨z1, z2, _⟩ := hBs b o z
              rcases List.mem_cons.mp (show b ∈ l :: (Z.ex ++ owns σ Γ) from hb) with w | w
              · exact absurd w z1
              · exact absurd w z2) (fun a o z => (hBs a o z).2.2.2.2)
          refine parN_ok (Z := { Z with fs := B :: Z.fs, ex := l :: Z.ex, gs := Z.gs ++ [gL l ws] }) (EvN.to (Z := Z) (Z' := { h0 := Z.h0, fs := B :: Z.fs, ex := l :: Z.ex, gs := Z.gs ++ [gL l ws] }) ⟨rfl, fun _ h => List.mem_append_left _ h, noTu_add⟩ hE.2) hL' h1' fun vs H2 e2 hln h2 => q (.ref l :: vs) H2 (e1.trans e2) (congrArg (· + 1) hln) ?_
          have hst : Ex B H2 := (h2.ext B (.inr List.mem_cons_self)).1
          have hBO := (h2.ext B (.inr List.mem_cons_self)).2
          have h3' : Holds { Z with ex := l :: Z.ex, gs := Z.gs ++ [gL l ws] } (setA σ L vs) H2 (setG Γ L) := h2.unframe (Z := { Z with ex := l :: Z.ex, gs := Z.gs ++ [gL l ws] })
          have h3 : Holds { Z with ex := l :: Z.ex } (setA σ L vs) H2 (setG Γ L) := h3'.tell (gs' := Z.gs) (fun g hg => h3'.gok g (List.mem_append_left _ hg)) h.gap
          have hle : l ∉ Z.ex := fun z => n1 (List.mem_append_left _ z)
          refine h3.claim (Z := Z) sl (e2 _ _ n3) (Ex.free h.h0x n2) hle (fun g hg z => (h.exd l ((h.gok g hg).1 l z)).1 n2) (hv'.mono fun a o z => ?_)
          show reg _ Z.h0 H2 a = _
          obtain ⟨z1, z2, z3, z4, z5⟩ := hBs a o z
          exact reg_has (fun w => by rw [hBO a w] at z; cases z) (Ex.free h.h0x z3) (hst _ _ z) z5
      | _ => cases ha
section
variable {X : Cx} {e a b c : Expr} {pos : Pos} {rest : List Stmt} {E : Ends} {σ : L2.St} {H : Hp} {Z : Fr} {Γ : List SV} {m ma mb i : Nat} {d da db : D} {ds es xs ys : List D}
theorem w_par3N {x y z : Str} {px py pz pt : Pos} {kt k2 : Nat} {pt2 : Pos} (A B C : As) (hE : EvN X Z Γ [a, b, c] [A, B, C]) (h : Holds Z σ H Γ) (k : ∀ σ' H', Ex H H' → Holds Z σ' H' (setG Γ [A, B, C]) → wp X rest E σ' H') (hN : X.N.Nodup)
    (hA : [A, B, C].all As.ok = true := by rfl) (hc : X.calm = true := by rfl) (hi : X.N[A.slot]? = some x := by rfl) (hj : X.N[B.slot]? = some y := by rfl) (hl : X.N[C.slot]? = some z := by rfl) (hij : A.slot ≠ B.slot := by first | decide | simp) (hil : A.slot ≠ C.slot := by first | decide | simp) (hjl : B.slot ≠ C.slot := by first | decide | simp)
    (hx : X.env.scope.names.lookup x = some .local := by rfl) (hy : X.env.scope.names.lookup y = some .local := by rfl) (hz : X.env.scope.names.lookup z = some .local := by rfl)
    (hs1 : starEach [a, b, c] X.env = (false, eval a X.env) :: starEach [b, c] X.env := by rfl) (hs2 : starEach [b, c] X.env = (false, eval b X.env) :: starEach [c] X.env := by rfl) (hs3 : starEach [c] X.env = (false, eval c X.env) :: starEach [] X.env := by rfl)
    (hw : swappedStores [.Tuple [.Name x px, .Name y py, .Name z pz] kt pt] (.Tuple [a, b, c] k2 pt2) X.env = pure (some [x, y, z]) := by rfl)
    (hs : swapsWithSole [.Tuple [.Name x px, .Name y py, .Name z pz] kt pt] (.Tuple [a, b, c] k2 pt2) pos.line X.env = pure false := by rfl) :
    wp X (.Assign [.Tuple [.Name x px, .Name y py, .Name z pz] kt pt] (.Tuple [a, b, c] k2 pt2) pos :: rest) E σ H :=
  wp_cons (ps_par3 hc hN hi hj hl hij hil hjl hx hy hz (ta := tWs X [a, b, c]) (pa_cons wE_ok (pa_cons wE_ok (pa_cons wE_ok pa_nil hs3) hs2) hs1) hw hs) (parN_ok hE hA h fun vs H' ex hl' h' => by
    match vs, hl' with
    | [u, v, w], _ =>
      refine ⟨u, v, w, rfl, k _ H' ex ?_⟩
      have e : setA σ [A, B, C] [u, v, w] = ((σ.set A.slot (some u)).set B.slot (some v)).set C.slot (some w) := by
        show ((σ.set C.slot (some w)).set B.slot (some v)).set A.slot (some u) = _
        rw [List.set_comm (some w) (some v) hjl.symm, List.set_comm (some w) (some u) hil.symm, List.set_comm (some v) (some u) hij.symm]
      rw [← e]; exact h')
end
end DL

set_option Elab.async false
set_option linter.all false
set_option maxRecDepth 100000
/-! DL28: [::-1]. -/
namespace DL
open PySem L2
section
variable {X : Cx} {e a b : Expr} {pos p1 p2 p3 : Pos} {kk : Nat} {Z : Fr} {Γ : List SV} {m : Nat} {ds : List D}
theorem n_rev (h : PE X e (tL Z Γ m ds)) : PE X (.Subscript e (.Slice none none (some (.UnaryOp .USub (.Constant (.int 1) kk p1) p2)) p3) pos) (tN Z Γ m ds.reverse) :=
  pe_imp (pe_revL h) fun σ H Q k => ⟨k.1, fun a vs H1 e1 h1 r => ⟨a, vs, rfl, .of h1, fun p hp => k.2 p _ _ (e1.trans (Ex.new hp)) (Ex.free e1 hp) upd_same ((r.mono (rg_ex (fun _ z => .inl z) (Ex.refl _) (Ex.new hp))).reverse)⟩⟩
/-- less is told of an own list's items -/
theorem Holds.own1 {σ : L2.St} {H : Hp} {i m' : Nat} (h : Holds Z σ H Γ) (hi : Γ[i]? = some (.own m ds)) (hm : m' ≤ m) : Holds Z σ H (Γ.set i (.own m' ds)) := by
  have hil : i < σ.length := by rw [h.len]; exact (List.getElem?_eq_some_iff.mp hi).1
  obtain ⟨l, vs, e1, e2, e3, r⟩ := h.ok i _ _ (List.getElem?_eq_getElem hil) hi
  have hσ : σ[i]? = some (some (.ref l)) := by rw [List.getElem?_eq_getElem hil, e1]
  have eo : owns σ (Γ.set i (.own m' ds)) = owns σ Γ := owns_same hσ hi
  have eO : Z.O σ (Γ.set i (.own m' ds)) = Z.O σ Γ := congrArg (Z.ex ++ ·) eo
  refine ⟨fun B hB => by rw [eO]; exact h.ext B hB, fun a ha => by rw [eo]; exact h.exd a ha, by rw [List.length_set]; exact h.len, by rw [eo]; exact h.nd, fun j o' sv' q1 q2 => ?_, fun g hg => by rw [eO]; exact h.gok g hg, h.gap, h.fnt⟩
  rw [eO]
  by_cases hj : i = j
  · subst hj
    rw [List.getElem?_set_self (by rw [← h.len]; exact hil)] at q2
    rw [hσ] at q1
    cases q1; cases q2
    exact ⟨l, vs, rfl, e2, e3, r.mono (rg_down hm (Ex.refl _))⟩
  · rw [List.getElem?_set_ne hj] at q2
    exact h.ok j o' sv' q1 q2
end
end DL

set_option Elab.async false
set_option linter.all false
set_option maxRecDepth 100000
/-! DL29: a hidden list of lists, its lists appended to. -/
namespace DL
open PySem L2
abbrev LRow : Type := List V × List D
def TlAt (R O : Hp) (l : Addr) (ds : List Addr) (rows : List LRow) : Prop := O l = some (.lst (ds.map V.ref)) ∧ ds.length = rows.length ∧ (l :: ds).Nodup ∧ ∀ (i : Nat) (d : Addr) (row : LRow), ds[i]? = some d → rows[i]? = some row → O d = some (.lst row.1) ∧ RepL R row.1 row.2
def gTl (mt : Nat) (l : Addr) (ds : List Addr) (rows : List LRow) : GS where
  as := l :: ds
  m := mt
  P := fun R O => TlAt R O l ds rows
  mono := fun e h => by
    obtain ⟨h1, h2, h3, h4⟩ := h
    exact ⟨h1, h2, h3, fun i d row hd hr => ⟨(h4 i d row hd hr).1, (h4 i d row hd hr).2.mono e⟩⟩
theorem gTl_ntu {mt : Nat} {l : Addr} {ds : List Addr} {rows : List LRow} : (gTl mt l ds rows).ntu := fun R O h a ha xs e => by
  obtain ⟨h1, h2, h3, h4⟩ := h
  rcases List.mem_cons.mp ha with z | z
  · rw [z, h1] at e; cases e
  · obtain ⟨i, hi, rfl⟩ := List.mem_iff_getElem.mp z
    have hi2 : i < rows.length := by rw [← h2]; exact hi
    obtain ⟨k1, _⟩ := h4 i ds[i] rows[i] (List.getElem?_eq_getElem hi) (List.getElem?_eq_getElem hi2)
    rw [k1] at e; cases e
section
variable {X : Cx} {e a b o iter elt : Expr} {pos ap cp : Pos} {rest body : List Stmt} {E : Ends} {σ : L2.St} {H : Hp} {Z : Fr} {Γ : List SV} {m ma mb mt i j k : Nat} {d : D} {l : Addr} {ds : List Addr} {rows : List LRow} {row : LRow} {xs : List D} {scope : Scope} {tg : Expr}
theorem Holds.tlAt (h : Holds Z σ H Γ) (hg : gTl mt l ds rows ∈ Z.gs) : TlAt (rg mt (Z.O σ Γ) Z.h0 Z.h0 H) (only (l :: ds) H) l ds rows := (h.gok _ hg).2.2
theorem tl_ref {R O : Hp} (t : TlAt R O l ds rows) (hk : k < rows.length) : ds[k]? = some (ds.getD k 0) := by
  have : k < ds.length := by rw [t.2.1]; exact hk
  rw [List.getD_eq_getElem?_getD, List.getElem?_eq_getElem this]; rfl
theorem r_rowL (k : Nat) (hg : gTl mt l ds rows ∈ Z.gs) (he : PE X e (tR Z Γ (.ref l))) (hi : PE X a (tD Z Γ ma (.int (k : Int)))) (hk : k < rows.length) (hs : PlainIx a := by exact fun _ _ => rfl) : PE X (.Subscript e a pos) (tR Z Γ (.ref (ds.getD k 0))) :=
  pe_imp (pe_ix ix_list he hi hs) fun σ H Q h => ⟨h.1, fun H1 e1 => ⟨h.1.grow e1, fun y H2 e2 r => by
    cases r
    have h2 := h.1.grow (e1.trans e2)
    have t := h2.tlAt hg
    have hl := (only_some t.1).2
    have hlen : k < (ds.map V.ref).length := by rw [List.length_map, t.2.1]; exact hk
    refine ⟨l, ds.map V.ref, (k : Int), .ref (ds.getD k 0), rfl, rfl, .of hl, ?_, h.2 H2 (e1.trans e2)⟩
    unfold atI
    rw [ix_nat hlen, Option.bind_some, List.getElem?_map, tl_ref t hk]; rfl⟩⟩
theorem Holds.rowL (h : Holds Z σ H Γ) (hg : gTl mt l ds rows ∈ Z.gs) (hr : rows[k]? = some row) : H (ds.getD k 0) = some (.lst row.1) ∧ RepL (rg mt (Z.O σ Γ) Z.h0 Z.h0 H) row.1 row.2 := by
  have t := h.tlAt hg
  obtain ⟨k1, k2⟩ := t.2.2.2 k _ row (tl_ref t (List.getElem?_eq_some_iff.mp hr).1) hr
  exact ⟨(only_some k1).2, k2⟩
theorem l_rowL (k : Nat) (hg : gTl mt l ds rows ∈ Z.gs) (he : PE X e (tR Z Γ (.ref (ds.getD k 0)))) (hr : rows[k]? = some row) (hm2 : mt ≤ 2 := by decide) : PE X e (tL Z Γ mt row.2) :=
  pe_imp he fun σ H Q h => ⟨h.1, fun H1 e1 => by
    obtain ⟨k1, k2⟩ := (h.1.grow e1).rowL hg hr
    exact h.2 _ _ H1 e1 k1 (by rw [rg_same hm2]; exact k2)⟩
/-- a list read, as a datum anywhere -/
theorem l_d0 (h : PE X e (tL Z Γ m xs)) : PE X e (tD Z Γ 0 (.lst xs)) := pe_imp h fun σ H Q q => ⟨q.1, fun a vs H1 e1 h1 r => q.2 _ H1 e1 (.lst (nt_at h1 trivial) (r.mono rg_le0))⟩
/-- t[k].append(e) -/
theorem w_appTl (j k : Nat) (hj : Z.gs[j]? = some (gTl mt l ds rows)) (ho : PE X o (tR Z Γ (.ref (ds.getD k 0)))) (he : PE X e (tD Z Γ ma d)) (hr : rows[k]? = some row) (h : Holds Z σ H Γ)
    (kk : ∀ v H', Holds { Z with gs := Z.gs.set j (gTl mt l ds (rows.set k (row.1 ++ [v], row.2 ++ [d]))) } σ H' Γ → wp X rest E σ H') (hl : row.2.length < 1000000) (hma : mt ≤ ma := by decide) (hm1 : 1 ≤ mt := by decide) (hm2 : mt ≤ 2 := by decide) (hz : noz Γ = true := by rfl) (hst : starEach [e] X.env = (false, eval e X.env) :: starEach [] X.env := by rfl)
    (hb : attributeBase o "append" X.env (eval o X.env) = eval o X.env := by rfl)
    (hfew : ((backTo cp (starEach (e :: []) X.env)).all (fun x => !x.1) && (backToKw cp (keywordEach [] X.env)).all (fun x => x.1.isSome) && decide ((e :: ([] : List Expr)).length + ([] : List Keyword).length + (if ([] : List Keyword).isEmpty then 0 else 1) < 30)) = true := by rfl)
    (hline : (ap.endLine == cp.line) = true := by rfl) (hplain : (backTo cp (starEach [] X.env)).any (·.1) = false := by rfl)
    (hs : swapsWith (.Call (.Attribute o "append" ap) [e] [] cp) none pos.line X.env = pure false := by rfl) : wp X (.Expr (.Call (.Attribute o "append" ap) [e] [] cp) pos :: rest) E σ H :=
  wp_cons (ps_expr (pe_bm PySem.F.plainAttrs_list PySem.F.slot_list_append PySem.F.type_list_append mt_append ho (pa_cons he pa_nil hst) hb hfew hline hst hplain) hs) ⟨h, fun H1 e1 => by
    have hg : gTl mt l ds rows ∈ Z.gs := List.mem_of_getElem? hj
    have h1 := h.grow e1
    obtain ⟨q1, _⟩ := h1.rowL hg hr
    refine ⟨.inl ⟨rfl, _, .of q1⟩, h1, fun v H2 e2 rv => ?_⟩
    have h2 := h1.grow e2
    obtain ⟨k1, k2⟩ := h2.rowL hg hr
    have t := h2.tlAt hg
    have hkl := (List.getElem?_eq_some_iff.mp hr).1
    have hdk := tl_ref t hkl
    have hdm : ds.getD k 0 ∈ ds := List.mem_of_getElem? hdk
    have hdm' : ds.getD k 0 ∈ l :: ds := List.mem_cons_of_mem _ hdm
    have hx : ds.getD k 0 ∈ Z.ex := (h2.gok _ hg).1 _ hdm'
    have hxO : ds.getD k 0 ∈ Z.O σ Γ := List.mem_append_left _ hx
    have hne : l ≠ ds.getD k 0 := fun z => (List.nodup_cons.mp t.2.2.1).1 (by rw [z]; exact hdm)
    have up := rg_mut (H0 := Z.h0) (Hs := Z.h0) (H := H2) (o' := .lst (row.1 ++ [v])) hm1 hxO
    have rv' : Rep (rg mt (Z.O σ Γ) Z.h0 Z.h0 H2) v d := by
      have q := rv.mono (rg_down hma h1.h0x); rw [rg_same hm2] at q; exact q
    refine ⟨_, _, v, rfl, rfl, k1, by rw [k2.length]; exact Nat.lt_of_lt_of_le hl (by decide), kk v _ (h2.turn1 hj rfl hdm' hz ⟨(h2.gok _ hg).1, hm1, ?_, by rw [List.length_set]; exact t.2.1, t.2.2.1, fun i' d' row' hd' hr' => ?_⟩)⟩
    · show only (l :: ds) _ l = _
      rw [only_at List.mem_cons_self, upd_ne hne]
      exact (only_some t.1).2
    · have hdi : d' ∈ l :: ds := List.mem_cons_of_mem _ (List.mem_of_getElem? hd')
      by_cases hik : k = i'
      · subst hik
        rw [hdk] at hd'
        cases hd'
        rw [List.getElem?_set_self hkl] at hr'
        cases hr'
        exact ⟨by show only (l :: ds) _ _ = _; rw [only_at hdi, upd_same], (k2.mono up).append (.cons (rv'.mono up) .nil)⟩
      · rw [List.getElem?_set_ne hik] at hr'
        obtain ⟨q1, q2⟩ := t.2.2.2 i' d' row' hd' hr'
        have hnd := (List.nodup_cons.mp t.2.2.1).2
        have hne' : d' ≠ ds.getD k 0 := fun z => by
          have h1 : i' < ds.length := (List.getElem?_eq_some_iff.mp hd').1
          rw [z] at hd'
          have h2 : ds[i']? = ds[k]? := hd'.trans hdk.symm
          exact hik ((List.getElem?_inj h1 hnd).mp h2).symm
        exact ⟨by show only (l :: ds) _ _ = _; rw [only_at hdi, upd_ne hne']; exact (only_some q1).2, q2.mono up⟩⟩
theorem tlAt_fresh {R : Hp} {H H' : Hp} {n : Nat} {l : Addr} {ds : List Addr} (f : Fresh H H' (.lst []) n l ds) : TlAt R (only (l :: ds) H') l ds (List.replicate n ([], [])) := by
  obtain ⟨f1, f2, f3, f4, f5⟩ := f
  refine ⟨by rw [only_at List.mem_cons_self]; exact f3, by rw [List.length_replicate]; exact f5, f1, fun i d row hd hr => ?_⟩
  have hm : d ∈ ds := List.mem_of_getElem? hd
  rw [List.getElem?_replicate] at hr
  split at hr
  · cases hr
    exact ⟨by rw [only_at (List.mem_cons_of_mem _ hm)]; exact f4 d hm, .nil⟩
  · cases hr
/-- x = [[] for y in range(n)] -/
theorem w_lists {n : Nat} (mt : Nat) (i : Nat) {x : Str} {py dp : Pos} (own : List (Str × Nat)) (p : Pat) (hi : PI X tg iter (tI Z Γ m (rng 0 n))) (hg : ∀ (s : Shared) (H' : Hp) (C : Addr) (cl : List (Str × Addr)) (fp : List Addr), PG (blkX X scope s H' C cl fp) tg (gP X.K p))
    (hp : ∀ i : Int, ∃ Γ1, bindP (min m 2) p (.int i) (wipeG Γ (own.map (·.2))) = some Γ1) (h : Holds Z σ H Γ)
    (k : ∀ l ds σ' H', Ex H H' → (∀ a ∈ l :: ds, H a = none) → Holds { Z with ex := (l :: ds) ++ Z.ex, gs := Z.gs ++ [gTl mt l ds (List.replicate n ([], []))] } σ' H' (Γ.set i (.raw (.ref l))) → wp X rest E σ' H') (hlen : n ≤ 1000000) (hN : X.N.Nodup) (ok : BlkOk X.N X.env.scope scope own)
    (hsw : swapsWith (.ListComp (.List [] dp) [⟨tg, iter, [], 0⟩] scope pos) (some (.Name x py)) pos.line X.env = pure true) (hm1 : 1 ≤ mt := by decide) {spos : Pos} (hsp : spos.line = pos.line := by rfl) (hi' : X.N[i]? = some x := by rfl) (hl : X.env.scope.names.lookup x = some .local := by rfl) (hc : X.calm = true := by rfl) (hm : 1 ≤ m := by decide)
    (hz : noz Γ = true := by rfl) (hno : nown Γ (own.map (·.2)) = true := by rfl) (hsl : slotsIn p (own.map (·.2)) = true := by rfl) (hs : ∀ x, foldedSetIterable iter X.env x = pure x := by intro _; rfl) :
    wp X (.Assign [.Name x py] (.ListComp (.List [] dp) [⟨tg, iter, [], 0⟩] scope pos) spos :: rest) E σ H :=
  wp_cons (ps_setLc (te := tNewO (.lst [])) (tt := fun _ H Q => Q true H) hc hN hi' hl (by rw [hsp]; exact hsw) hi ok hg (fun s H C cl fp => pts_nil) (fun s H C cl fp => pe_imp (pe_lst pa_nil) fun σ H Q h => ⟨Nat.zero_le _, h⟩) hs)
    (imp_fresh (Q := fun v H' => wp X rest E (σ.set i (some v)) H') (enc := fun j : Nat => D.int (0 + (j : Int))) (ys := List.range n) hm hz hno hsl (by rw [List.length_range]; exact hlen) (fun y _ => hp _) h fun l ds H' e f => by
      rw [List.length_range] at f
      refine k l ds _ H' e f.2.1 ((h.addG (g := gTl mt l ds (List.replicate n ([], []))) e (fun a ha => ⟨f.2.1 a ha, ?_⟩) hm1 (tlAt_fresh f)).raw i (.ref l))
      rcases List.mem_cons.mp ha with z | z
      · rw [z, f.2.2.1]; simp
      · rw [f.2.2.2.1 a z]; simp)
/-- for x in a hidden list of fixed values, with a state -/
theorem w_forGS {S : Type} {li : Addr} {ts : List V} (j : Nat) {x : Str} {xp : Pos} (hi : PE X iter (tR Z Γ (.ref li))) (hp : PassesOwn (model X.prog X.w) X.A X.env X.xe) (hc : X.calm = true) (h : Holds Z σ H Γ) (G : S → List GS) (Γs : S → List SV) (I : Nat → S → Prop) (s0 : S) (hI : I 0 s0) (hG : G s0 = Z.gs) (h0 : ∀ Z' H', Holds Z' σ H' Γ → Holds Z' σ H' (Γs s0))
    (hl : ∀ i s σ' H', I i s → Holds { Z with gs := G s } σ' H' (Γs s) → H' li = some (.lst ts))
    (turn : ∀ i t s σ' H', ts[i]? = some t → I i s → Holds { Z with gs := G s } σ' H' ((Γs s).set j (.raw t)) → wp X body { E with nx := fun σ2 H2 => ∃ s', I (i + 1) s' ∧ Holds { Z with gs := G s' } σ2 H2 (Γs s'), ct := fun σ2 H2 => ∃ s', I (i + 1) s' ∧ Holds { Z with gs := G s' } σ2 H2 (Γs s'), bk := fun σ' H' => wp X rest E σ' H' } σ' H')
    (after : ∀ s σ' H', I ts.length s → Holds { Z with gs := G s } σ' H' (Γs s) → wp X rest E σ' H')
    (nd : X.N.Nodup) (hN : X.N[j]? = some x := by rfl) (hx : Loc X.env.scope x := by first | exact .inl rfl | exact .inr rfl) (hf : X.fn x = true ∨ X.env.scope.names.lookup x = some .local := by first | exact .inl rfl | exact .inr rfl) (hs : ∀ x, foldedSetIterable iter X.env x = pure x := by intro _; rfl) : wp X (.For (.Name x xp) iter body [] pos :: rest) E σ H := by
  have hz : ({ Z with gs := G s0 } : Fr) = Z := by rw [hG]
  have hh : ∀ H1, Ex H H1 → Holds { Z with gs := G s0 } σ H1 (Γs s0) := fun H1 e1 => by rw [hz]; exact h0 _ _ (h.grow e1)
  refine wp_cons (ps_for hp hc (pi_list hi) (pg_name nd hN hx hf) (pss_wp body) hs) ⟨h, fun H1 e1 => ⟨li, rfl, ⟨ts, .of (hl 0 s0 σ H1 hI (hh H1 e1))⟩, ?_⟩⟩
  refine ⟨fun i n σ' H' => n = ts.length - i ∧ i ≤ ts.length ∧ ∃ s, I i s ∧ Holds { Z with gs := G s } σ' H' (Γs s), ⟨ts.length, by simp, Nat.zero_le _, s0, hI, hh H1 e1⟩, ?_⟩
  rintro i n σ' H' ⟨rfl, hi', s, is, p'⟩
  have hL := hl i s σ' H' is p'
  by_cases hlt : i < ts.length
  · refine .inr ⟨⟨ts, ts[i], .of hL, List.getElem?_eq_getElem hlt⟩, fun σ2 H2 => ∃ s', I (i + 1) s' ∧ Holds { Z with gs := G s' } σ2 H2 (Γs s'), fun σ2 H2 q => ⟨ts.length - (i + 1), by omega, rfl, hlt, q⟩, fun y H2 q => ?_⟩
    obtain ⟨rfl, q⟩ := q
    have q := q ts (.of hL)
    exact turn i y s _ _ q is (p'.raw j y)
  · have e : i = ts.length := by omega
    subst e
    exact .inl ⟨⟨ts, .of hL, Nat.le_refl _⟩, after s σ' H' is p'⟩
/-- at the end of a def: the hidden list of lists as a new datum -/
theorem tl_rep (h : Holds Z σ H Γ) (hg : gTl 2 l ds rows ∈ Z.gs) : Rep (reg [] Z.h0 H) (.ref l) (.lst (rows.map fun r => .lst r.2)) := by
  have t := h.tlAt hg
  have hO : ∀ a ∈ l :: ds, Z.h0 a = none := fun a ha => (h.ext _ (.inl rfl)).2 a (List.mem_append_left _ ((h.gok _ hg).1 a ha))
  have up : Ex (rg 2 (Z.O σ Γ) Z.h0 Z.h0 H) (reg [] Z.h0 H) := reg_ex (fun a z => by cases z) (Ex.refl _) (Ex.refl _)
  refine .lst (reg_has (by simp) (hO l List.mem_cons_self) (only_some t.1).2 trivial) (RepL.of (by rw [List.length_map, List.length_map]; exact t.2.1) fun i v d hv hd => ?_)
  rw [List.getElem?_map] at hv hd
  obtain ⟨a, ha, rfl⟩ := Option.map_eq_some_iff.mp hv
  obtain ⟨r, hr, rfl⟩ := Option.map_eq_some_iff.mp hd
  obtain ⟨k1, k2⟩ := t.2.2.2 i a r ha hr
  exact .lst (reg_has (by simp) (hO a (List.mem_cons_of_mem _ (List.mem_of_getElem? ha))) (only_some k1).2 trivial) (k2.mono up)
end
end DL

set_option Elab.async false
set_option linter.all false
set_option maxRecDepth 100000
set_option maxHeartbeats 4000000
namespace DL
open PySem L2
section
variable {Z : Fr} {H : Hp} {σ : L2.St} {Γ : List SV}
theorem Holds.raw_at {i : Nat} {v : V} (h : Holds Z σ H Γ) (hΓ : Γ[i]? = some (.raw v)) : σ[i]? = some (some v) := by
  have hi : i < σ.length := by rw [h.len]; exact (List.getElem?_eq_some_iff.mp hΓ).1
  have := h.ok i _ _ (List.getElem?_eq_getElem hi) hΓ
  rw [List.getElem?_eq_getElem hi, this]
/-- a known value is a datum -/
theorem Holds.rawDat {m : Nat} {v : V} {d : D} (h : Holds Z σ H Γ) (i : Nat) (hΓ : Γ[i]? = some (.raw v)) (r : Rep (rg m (Z.O σ Γ) Z.h0 Z.h0 H) v d) : Holds Z σ H (Γ.set i (.dat m d)) := by
  have e := h.raw_at hΓ
  have q := h.dat i r
  obtain ⟨h1, h2⟩ := List.getElem?_eq_some_iff.mp e
  rw [← h2, List.set_getElem_self] at q
  exact q
end
end DL

set_option Elab.async false
set_option linter.all false
set_option maxRecDepth 100000
set_option maxHeartbeats 4000000
/-! DL32: heaps told as ghosts; hidden chunks; is on truth values; isinstance of own classes. -/
namespace DL
open PySem L2
def isDat : HO → Bool
  | .lst _ => true
  | .tup _ => true
  | .dK _ => true
  | .ins _ _ _ => true
  | _ => false
mutual
theorem Rep.supD {R : Hp} : ∀ {v : V} {d : D}, Rep R v d → ∃ as : List Addr, (∀ a ∈ as, ∃ o, R a = some o ∧ isDat o = true) ∧ Rep (only as R) v d
  | _, _, .non => ⟨[], by simp, .non⟩
  | _, _, .bl b => ⟨[], by simp, .bl b⟩
  | _, _, .int i => ⟨[], by simp, .int i⟩
  | _, _, .str x => ⟨[], by simp, .str x⟩
  | _, _, .lst (a := a) h hs => by
    obtain ⟨as, h1, h2⟩ := RepL.supD hs
    refine ⟨a :: as, fun b hb => ?_, .lst (by rw [only_at List.mem_cons_self]; exact h) (h2.mono (only_sub fun _ z => List.mem_cons_of_mem _ z))⟩
    rcases List.mem_cons.mp hb with z | z
    · rw [z]; exact ⟨_, h, rfl⟩
    · exact h1 b z
  | _, _, .tup (a := a) h hs => by
    obtain ⟨as, h1, h2⟩ := RepL.supD hs
    refine ⟨a :: as, fun b hb => ?_, .tup (by rw [only_at List.mem_cons_self]; exact h) (h2.mono (only_sub fun _ z => List.mem_cons_of_mem _ z))⟩
    rcases List.mem_cons.mp hb with z | z
    · rw [z]; exact ⟨_, h, rfl⟩
    · exact h1 b z
  | _, _, .emp (a := a) h => ⟨[a], fun b hb => by rw [List.mem_singleton.mp hb]; exact ⟨_, h, rfl⟩, .emp (by rw [only_at (List.mem_singleton.mpr rfl)]; exact h)⟩
  | _, _, .obj (a := a) h n hs => by
    obtain ⟨as, h1, h2⟩ := RepL.supD hs
    refine ⟨a :: as, fun b hb => ?_, .obj (by rw [only_at List.mem_cons_self]; exact h) n (h2.mono (only_sub fun _ z => List.mem_cons_of_mem _ z))⟩
    rcases List.mem_cons.mp hb with z | z
    · rw [z]; exact ⟨_, h, rfl⟩
    · exact h1 b z
theorem RepL.supD {R : Hp} : ∀ {vs : List V} {ds : List D}, RepL R vs ds → ∃ as : List Addr, (∀ a ∈ as, ∃ o, R a = some o ∧ isDat o = true) ∧ RepL (only as R) vs ds
  | _, _, .nil => ⟨[], by simp, .nil⟩
  | _, _, .cons h hs => by
    obtain ⟨as, h1, h2⟩ := Rep.supD h
    obtain ⟨bs, k1, k2⟩ := RepL.supD hs
    refine ⟨as ++ bs, fun b hb => (List.mem_append.mp hb).elim (h1 b) (k1 b), .cons (h2.mono (only_sub fun _ z => List.mem_append_left _ z)) (k2.mono (only_sub fun _ z => List.mem_append_right _ z))⟩
end
/-- the heap B stands in the region of mode m -/
def gB (m : Nat) (B : Hp) : GS := ⟨[], m, fun R _ => Ex B R, fun e h => h.trans e⟩
/-- at the hidden addresses as stands B -/
def gH (as : List Addr) (B : Hp) : GS := ⟨as, 1, fun _ O => Ex B O, fun _ h => h⟩
theorem apart_add {gs : List GS} {g : GS} (h : Apart gs) (hg : ∀ g' ∈ gs, ∀ a ∈ g'.as, a ∉ g.as) : Apart (gs ++ [g]) :=
  List.pairwise_append.mpr ⟨h, List.pairwise_singleton _ _, fun g1 h1 g2 h2 a ha hb => by rw [List.mem_singleton.mp h2] at hb; exact hg g1 h1 a ha hb⟩
/-- nothing is held of slots but values and scalars -/
def plainG : List SV → Bool
  | [] => true
  | .any :: Γ => plainG Γ
  | .raw _ :: Γ => plainG Γ
  | .dat _ d :: Γ => (sc d).isSome && plainG Γ
  | .own _ _ :: _ => false
theorem plainG_at : ∀ {Γ : List SV} {i : Nat} {sv : SV}, plainG Γ = true → Γ[i]? = some sv → (∀ m ds, sv ≠ .own m ds) ∧ ∀ m d, sv = .dat m d → ∃ w, sc d = some w
  | [], i, sv, _, h => by cases h
  | s :: Γ, 0, sv, hp, h => by
    cases h
    cases s with
    | own m ds => cases hp
    | dat m d =>
      refine ⟨fun _ _ z => (by cases z), fun m' d' z => ?_⟩
      cases z
      exact Option.isSome_iff_exists.mp (Bool.and_eq_true_iff.mp hp).1
    | any => exact ⟨fun _ _ z => (by cases z), fun _ _ z => (by cases z)⟩
    | raw v => exact ⟨fun _ _ z => (by cases z), fun _ _ z => (by cases z)⟩
  | s :: Γ, i + 1, sv, hp, h => by
    refine plainG_at (Γ := Γ) (i := i) ?_ h
    cases s with
    | own m ds => cases hp
    | dat m d => exact (Bool.and_eq_true_iff.mp hp).2
    | any => exact hp
    | raw v => exact hp
theorem plain_owns : ∀ {Γ : List SV} {σ : L2.St}, plainG Γ = true → owns σ Γ = []
  | Γ, σ, h => List.eq_nil_iff_forall_not_mem.mpr fun l hl => by
    obtain ⟨i, m, ds, _, h2⟩ := mem_owns.mp hl
    exact (plainG_at h h2).1 m ds rfl
section
variable {Z : Fr} {H H' H2 : Hp} {σ : L2.St} {Γ : List SV} {v : V} {d : D} {m i j : Nat} {as : List Addr} {B : Hp}
/-- what a slot holds, in the region of mode 1 -/
theorem Holds.rep_at (h : Holds Z σ H Γ) (i : Nat) {m : Nat} {d : D} (hΓ : Γ[i]? = some (.dat m d)) (hm : 1 ≤ m := by decide) : ∃ v, σ[i]? = some (some v) ∧ Rep (rg 1 (Z.O σ Γ) Z.h0 Z.h0 H) v d := by
  have hi : i < σ.length := by rw [h.len]; exact (List.getElem?_eq_some_iff.mp hΓ).1
  obtain ⟨v, e, r⟩ := h.ok i _ _ (List.getElem?_eq_getElem hi) hΓ
  exact ⟨v, by rw [List.getElem?_eq_getElem hi, e], r.mono (rg_down hm (Ex.refl _))⟩
theorem Holds.rawS (h : Holds Z σ H Γ) (i : Nat) (e : σ[i]? = some (some v)) : Holds Z σ H (Γ.set i (.raw v)) := by
  have q := h.raw i v
  obtain ⟨h1, h2⟩ := List.getElem?_eq_some_iff.mp e
  rw [← h2, List.set_getElem_self] at q
  exact q
/-- the heap, told -/
theorem Holds.base (h : Holds Z σ H Γ) : Holds { Z with gs := Z.gs ++ [gB 1 (rg 1 (Z.O σ Γ) Z.h0 Z.h0 H)] } σ H Γ :=
  h.tell (fun g hg => by
    rcases List.mem_append.mp hg with z | z
    · exact h.gok g z
    · rw [List.mem_singleton.mp z]; exact ⟨fun a ha => (by cases ha), Nat.le_refl _, Ex.refl _⟩) (apart_add h.gap fun g' _ a _ z => by cases z)
theorem Holds.sees (h : Holds Z σ H Γ) (hg : gB m B ∈ Z.gs) : Ex B (rg m (Z.O σ Γ) Z.h0 Z.h0 H) := (h.gok _ hg).2.2
theorem Holds.chunk (h : Holds Z σ H Γ) (hg : gH as B ∈ Z.gs) : Ex B (only as H) := (h.gok _ hg).2.2
/-- a new datum, its heap told -/
theorem Holds.keepD (h : Holds Z σ H Γ) (e : Ex H H') (r : Rep (rg 3 (Z.O σ Γ) Z.h0 H H') v d) (i : Nat) : ∃ as : List Addr, (∀ a ∈ as, H a = none ∧ ∃ o, H' a = some o ∧ isDat o = true) ∧ Rep (only as H') v d ∧ Holds { Z with gs := Z.gs ++ [gB 1 (only as H')] } (σ.set i (some v)) H' (Γ.set i (.raw v)) := by
  obtain ⟨as, h1, h2⟩ := r.supD
  have hm : ∀ a ∈ as, H a = none ∧ a ∉ Z.O σ Γ ∧ ∃ o, H' a = some o ∧ isDat o = true ∧ ntb o := fun a ha => by
    obtain ⟨o, q1, q2⟩ := h1 a ha
    obtain ⟨k1, k2, k3, k4⟩ := reg_some4 q1
    exact ⟨k2, k1, o, k3, q2, k4⟩
  have h2' : Rep (only as H') v d := h2.mono fun a o z => by
    obtain ⟨z1, z2⟩ := only_some z
    rw [only_at z1]
    exact rg_le _ _ z2
  have hh := h.grow e
  have hx : Ex (only as H') (rg 1 (Z.O σ Γ) Z.h0 Z.h0 H') := fun a o z => by
    obtain ⟨z1, z2⟩ := only_some z
    obtain ⟨q1, q2, o', q3, q4, q5⟩ := hm a z1
    rw [q3] at z2
    cases z2
    exact reg_has q2 rfl q3 q5
  refine ⟨as, fun a ha => ⟨(hm a ha).1, by obtain ⟨_, _, o, q1, q2, _⟩ := hm a ha; exact ⟨o, q1, q2⟩⟩, h2', ?_⟩
  refine Holds.raw ?_ i v
  exact hh.tell (fun g hg => by
    rcases List.mem_append.mp hg with z | z
    · exact hh.gok g z
    · rw [List.mem_singleton.mp z]; exact ⟨fun a ha => (by cases ha), Nat.le_refl _, hx⟩) (apart_add h.gap fun g' _ a _ z => by cases z)
/-- addresses become hidden, where nothing is held that may lean on them -/
theorem Holds.hideB {gs' : List GS} (h : Holds Z σ H Γ) (hz : plainG Γ = true) (h0 : ∀ a ∈ as, Z.h0 a = none) (hf : ∀ B ∈ Z.fs, ∀ a ∈ as, B a = none) (hd : ∀ a ∈ as, H a ≠ none)
    (hg : ∀ g ∈ gs', GOk Z.h0 (as ++ Z.ex) (as ++ Z.ex) H g) (ha : Apart gs') : Holds { Z with ex := as ++ Z.ex, gs := gs' } σ H Γ := by
  have ho : owns σ Γ = [] := plain_owns hz
  refine ⟨fun B hB => ⟨(h.ext B hB).1, fun l hl => ?_⟩, fun l hl => ⟨?_, by rw [ho]; simp⟩, h.len, h.nd, fun i o sv e1 e2 => ?_, fun g hgm => ?_, ha, h.fnt⟩
  · rw [show (({ Z with ex := as ++ Z.ex, gs := gs' } : Fr).O σ Γ) = (as ++ Z.ex) ++ owns σ Γ from rfl, ho, List.append_nil] at hl
    rcases List.mem_append.mp hl with z | z
    · rcases hB with q | q
      · rw [q]; exact h0 l z
      · exact hf B q l z
    · exact (h.ext B hB).2 l (List.mem_append_left _ z)
  · rcases List.mem_append.mp hl with z | z
    · exact hd l z
    · exact (h.exd l z).1
  · have q := h.ok i o sv e1 e2
    obtain ⟨k1, k2⟩ := plainG_at hz e2
    cases sv with
    | any => trivial
    | raw v => exact q
    | own m ds => exact absurd rfl (k1 m ds)
    | dat m d =>
      obtain ⟨w, hw⟩ := k2 m d rfl
      obtain ⟨v, e, r⟩ := q
      refine ⟨v, e, ?_⟩
      rw [rep_sc hw r]
      exact sc_rep hw _
  · rw [show (({ Z with ex := as ++ Z.ex, gs := gs' } : Fr).O σ Γ) = (as ++ Z.ex) ++ owns σ Γ from rfl, ho, List.append_nil]
    exact hg g hgm
theorem gB_hide {H0 : Hp} {O ex : List Addr} (h : GOk H0 O ex H (gB 1 B)) (hB : ∀ a ∈ as, B a = none) : GOk H0 (as ++ O) (as ++ ex) H (gB 1 B) := by
  obtain ⟨_, h2, h3⟩ := h
  refine ⟨fun a ha => (by cases ha), h2, fun a o e => ?_⟩
  obtain ⟨k1, k2, k3, k4⟩ := reg_some4 (h3 a o e)
  refine reg_has (fun z => ?_) k2 k3 k4
  rcases List.mem_append.mp z with z | z
  · rw [hB a z] at e; cases e
  · exact k1 z
/-- what is told of one hidden thing is told otherwise; new addresses are hidden with it -/
theorem Holds.tell1 {g g' : GS} (h : Holds Z σ H Γ) (e : Ex H H') (hj : Z.gs[j]? = some g) (has : ∀ a ∈ g'.as, a ∈ as ∨ a ∈ g.as) (hp : ∀ a ∈ as, H a = none ∧ H' a ≠ none) (hm : 1 ≤ g'.m) (hP : g'.P (rg g'.m ((as ++ Z.ex) ++ owns σ Γ) Z.h0 Z.h0 H') (only g'.as H')) :
    Holds { Z with ex := as ++ Z.ex, gs := Z.gs.set j g' } σ H' Γ := by
  have h1 := h.hides e hp
  have hg : g ∈ Z.gs := List.mem_of_getElem? hj
  have hjl : j < Z.gs.length := (List.getElem?_eq_some_iff.mp hj).1
  have hjg : Z.gs[j] = g := by
    have := List.getElem?_eq_getElem hjl
    rw [hj] at this; exact (Option.some.inj this).symm
  have new : ∀ g2 ∈ Z.gs, ∀ a ∈ g2.as, a ∉ as := fun g2 h2 a ha hb => (h.exd a ((h.gok g2 h2).1 a ha)).1 (hp a hb).1
  refine h1.tell (gs' := Z.gs.set j g') (fun g2 hgm => ?_) ?_
  · obtain ⟨n, hn', rfl⟩ := List.mem_iff_getElem.mp hgm
    rw [List.getElem_set]
    split
    · refine ⟨fun a ha => ?_, hm, hP⟩
      rcases has a ha with z | z
      · exact List.mem_append_left _ z
      · exact List.mem_append_right _ ((h.gok g hg).1 a z)
    · rw [List.length_set] at hn'
      exact h1.gok _ (List.getElem_mem hn')
  · have ap := h.gap
    refine List.pairwise_iff_getElem.mpr fun n1 n2 q1 q2 q => ?_
    rw [List.length_set] at q1 q2
    have z := List.pairwise_iff_getElem.mp ap n1 n2 q1 q2 q
    rw [List.getElem_set, List.getElem_set]
    split
    · rename_i w1
      subst w1
      rw [hjg] at z
      split
      · rename_i w2; omega
      · intro a ha hb
        rcases has a ha with y | y
        · exact new _ (List.getElem_mem q2) a hb y
        · exact z a y hb
    · split
      · rename_i w2
        subst w2
        rw [hjg] at z
        intro a ha hb
        rcases has a hb with y | y
        · exact new _ (List.getElem_mem q1) a ha y
        · exact z a ha y
      · exact z
end
section
variable {X : Cx} {e a b o : Expr} {pos : Pos} {rest : List Stmt} {E : Ends} {σ : L2.St} {H H' : Hp} {Z : Fr} {Γ : List SV} {m ma mb i j k : Nat} {v w : V} {d da : D} {ds : List D} {as : List Addr} {B : Hp} {l : Addr} {vs : List V}
/-- a known value that stands for a datum in a told heap -/
theorem d_rB (he : PE X e (tR Z Γ v)) (hg : gB m B ∈ Z.gs) (r : Rep B v d) (hm : m ≤ 2 := by decide) : PE X e (tD Z Γ m d) :=
  pe_imp he fun σ H Q h => ⟨h.1, fun H1 e1 => h.2 v H1 e1 (by
    have q := (h.1.grow e1).sees hg
    rw [rg_same hm]
    exact r.mono q)⟩
/-- .. in a hidden chunk -/
theorem d_rH (he : PE X e (tR Z Γ v)) (hg : gH as B ∈ Z.gs) (r : Rep B v d) : PE X e (tD Z Γ 0 d) :=
  pe_imp he fun σ H Q h => ⟨h.1, fun H1 e1 => h.2 v H1 e1 ((r.mono (((h.1.grow e1).chunk hg).trans only_le)).nt)⟩
theorem r_fldH {x C dx : Addr} {fs : List (Str × V)} {f : Str} (he : PE X e (tR Z Γ (.ref x))) (hg : gH as B ∈ Z.gs) (hx : B x = some (.ins C dx fs)) (hf : fs.lookup f = some w) (c : Cls X.K C) (n : NoAttr X.K C f) (hb : attributeBase e f X.env (eval e X.env) = eval e X.env := by rfl) : PE X (.Attribute e f pos) (tR Z Γ w) :=
  pe_imp (pe_fld he hb) fun σ H Q h => ⟨h.1, fun H1 e1 => ⟨x, C, dx, fs, w, rfl, (((h.1.grow e1).chunk hg).trans only_le) _ _ hx, c, n, hf, h.2 H1 e1⟩⟩
theorem r_ixH (k : Nat) (he : PE X e (tR Z Γ (.ref l))) (hg : gH as B ∈ Z.gs) (hl : B l = some (.lst vs)) (hi : PE X a (tD Z Γ ma (.int (k : Int)))) (hk : vs[k]? = some w) (hs : PlainIx a := by exact fun _ _ => rfl) : PE X (.Subscript e a pos) (tR Z Γ w) :=
  pe_imp (pe_ix ix_list he hi hs) fun σ H Q h => ⟨h.1, fun H1 e1 => ⟨h.1.grow e1, fun y H2 e2 r => by
    cases r
    have h2 := h.1.grow (e1.trans e2)
    have q := ((h2.chunk hg).trans only_le) _ _ hl
    refine ⟨l, vs, (k : Int), w, rfl, rfl, .of q, ?_, h.2 H2 (e1.trans e2)⟩
    unfold atI
    rw [ix_nat (List.getElem?_eq_some_iff.mp hk).1, Option.bind_some, hk]⟩⟩
/-- x.append(e), x a list of a hidden chunk -/
theorem w_appH {ap cp : Pos} (j : Nat) (hj : Z.gs[j]? = some (gH as B)) (ho : PE X o (tR Z Γ (.ref l))) (he : PE X e (tD Z Γ 3 d)) (hl : B l = some (.lst vs)) (h : Holds Z σ H Γ)
    (kk : ∀ v as' B' H', Ex (wo B l) B' → B' l = some (.lst (vs ++ [v])) → Rep (wo B' l) v d → Holds { Z with ex := as' ++ Z.ex, gs := Z.gs.set j (gH (as' ++ as) B') } σ H' Γ → wp X rest E σ H')
    (hlen : vs.length < 1000000) (hz : noz Γ = true := by rfl) (hst : starEach [e] X.env = (false, eval e X.env) :: starEach [] X.env := by rfl)
    (hb : attributeBase o "append" X.env (eval o X.env) = eval o X.env := by rfl)
    (hfew : ((backTo cp (starEach (e :: []) X.env)).all (fun x => !x.1) && (backToKw cp (keywordEach [] X.env)).all (fun x => x.1.isSome) && decide ((e :: ([] : List Expr)).length + ([] : List Keyword).length + (if ([] : List Keyword).isEmpty then 0 else 1) < 30)) = true := by rfl)
    (hline : (ap.endLine == cp.line) = true := by rfl) (hplain : (backTo cp (starEach [] X.env)).any (·.1) = false := by rfl)
    (hs : swapsWith (.Call (.Attribute o "append" ap) [e] [] cp) none pos.line X.env = pure false := by rfl) : wp X (.Expr (.Call (.Attribute o "append" ap) [e] [] cp) pos :: rest) E σ H := by
  refine wp_cons (ps_expr (pe_bm PySem.F.plainAttrs_list PySem.F.slot_list_append PySem.F.type_list_append mt_append ho (pa_cons he pa_nil hst) hb hfew hline hst hplain) hs) ⟨h, fun H1 e1 => ?_⟩
  have hg : gH as B ∈ Z.gs := List.mem_of_getElem? hj
  have h1 := h.grow e1
  have q1 := (h1.chunk hg) _ _ hl
  obtain ⟨hla, q1⟩ := only_some q1
  refine ⟨.inl ⟨rfl, _, .of q1⟩, h1, fun v H2 e2 rv => ?_⟩
  have h2 := h1.grow e2
  obtain ⟨as2, s1, s2⟩ := rv.supD
  have hm : ∀ a ∈ as2, H1 a = none ∧ ∃ o, H2 a = some o := fun a ha => by
    obtain ⟨o, q1, q2⟩ := s1 a ha
    obtain ⟨k1, k2, k3, k4⟩ := reg_some4 q1
    exact ⟨k2, o, k3⟩
  have hB2 := h2.chunk hg
  have nla : l ∉ as2 := fun z => by rw [(hm l z).1] at q1; cases q1
  refine ⟨l, vs, v, rfl, rfl, e2 _ _ q1, Nat.lt_of_lt_of_le hlen (by decide), ?_⟩
  -- the chunk with the new datum
  have b1 : Ex B (fun a => if a ∈ as2 then H2 a else B a) := fun a o z => by
    have := only_some ((h1.chunk hg) _ _ z)
    show (if a ∈ as2 then H2 a else B a) = some o
    by_cases hq : a ∈ as2
    · rw [(hm a hq).1] at this; cases this.2
    · rw [if_neg hq]; exact z
  have h3 := h1.tell1 (as := as2) (g' := gH (as2 ++ as) (fun a => if a ∈ as2 then H2 a else B a)) e2 hj (fun a ha => List.mem_append.mp ha) (fun a ha => ⟨(hm a ha).1, by obtain ⟨o, q⟩ := (hm a ha).2; rw [q]; simp⟩) (Nat.le_refl _) (fun a o z => by
    have z : (if a ∈ as2 then H2 a else B a) = some o := z
    show only (as2 ++ as) H2 a = some o
    by_cases hq : a ∈ as2
    · rw [if_pos hq] at z
      rw [only_at (List.mem_append_left _ hq)]; exact z
    · rw [if_neg hq] at z
      obtain ⟨y1, y2⟩ := only_some (hB2 _ _ z)
      rw [only_at (List.mem_append_right _ y1)]; exact y2)
  have hjl : j < Z.gs.length := (List.getElem?_eq_some_iff.mp hj).1
  have h4 := h3.turn1 (p := l) (o := .lst (vs ++ [v])) (g' := gH (as2 ++ as) (upd (fun a => if a ∈ as2 then H2 a else B a) l (.lst (vs ++ [v])))) (List.getElem?_set_self hjl) rfl (List.mem_append_right _ hla) hz ⟨fun a ha => ((h3.gok _ (List.mem_of_getElem? (List.getElem?_set_self hjl))).1 a ha), Nat.le_refl _, fun a o z => by
    show only (as2 ++ as) (upd H2 l _) a = some o
    by_cases hal : a = l
    · subst hal
      rw [upd_same] at z
      rw [only_at (List.mem_append_right _ hla), upd_same]; exact z
    · rw [upd_ne hal] at z
      have z : (if a ∈ as2 then H2 a else B a) = some o := z
      by_cases hq : a ∈ as2
      · rw [if_pos hq] at z
        rw [only_at (List.mem_append_left _ hq), upd_ne hal]; exact z
      · rw [if_neg hq] at z
        obtain ⟨y1, y2⟩ := only_some (hB2 _ _ z)
        rw [only_at (List.mem_append_right _ y1), upd_ne hal]; exact y2⟩
  refine kk v as2 _ _ (fun a o z => ?_) (upd_same ..) (s2.mono fun a o z => ?_) (by rw [show ({ Z with ex := as2 ++ Z.ex, gs := Z.gs.set j (gH (as2 ++ as) (fun a => if a ∈ as2 then H2 a else B a)) } : Fr).gs = Z.gs.set j (gH (as2 ++ as) (fun a => if a ∈ as2 then H2 a else B a)) from rfl, List.set_set] at h4; exact h4)
  · unfold wo at z
    by_cases hal : a = l
    · rw [if_pos hal] at z; cases z
    · rw [if_neg hal] at z
      rw [upd_ne hal]
      exact b1 _ _ z
  · obtain ⟨z1, z2⟩ := only_some z
    have hal : a ≠ l := fun q => nla (q ▸ z1)
    rw [wo_ne hal, upd_ne hal]
    show (if a ∈ as2 then H2 a else B a) = some o
    rw [if_pos z1]
    exact rg_le _ _ z2
theorem obj_inv {R : Hp} {C : Addr} {ns : List Str} (r : Rep R v (.obj C ns ds)) : ∃ x dx fs, v = .ref x ∧ R x = some (.ins C dx fs) ∧ fs.map (·.1) = ns ∧ RepL R (fs.map (·.2)) ds := by
  cases r with
  | obj h1 h2 h3 => exact ⟨_, _, _, rfl, h1, h2, h3⟩
theorem lst_inv {R : Hp} (r : Rep R v (.lst ds)) : ∃ l vs, v = .ref l ∧ R l = some (.lst vs) ∧ RepL R vs ds := by
  cases r with
  | lst h1 h2 => exact ⟨_, _, rfl, h1, h2⟩
theorem obj1_inv {R : Hp} {C : Addr} {f : Str} (r : Rep R v (.obj C [f] [d])) : ∃ x dx w, v = .ref x ∧ R x = some (.ins C dx [(f, w)]) ∧ Rep R w d := by
  obtain ⟨x, dx, fs, h1, h2, h3, h4⟩ := obj_inv r
  match fs, h3, h4 with
  | [(g, w)], h3, h4 =>
    have h3 : [g] = [f] := h3
    have h4 : RepL R [w] [d] := h4
    have hg : g = f := (List.cons.inj h3).1
    subst hg
    cases h4 with
    | cons a b => exact ⟨x, dx, w, h1, h2, a⟩
theorem lst_size (ds : List D) : sizeOf ds < sizeOf (D.lst ds) := by rw [D.lst.sizeOf_spec]; omega
theorem wo_le' {H : Hp} {x : Addr} : Ex (wo H x) H := fun a o z => by
  unfold wo at z
  split at z
  · cases z
  · exact z
/-- x is True, x is not False -/
theorem d_isB {p : Bool} {z : Bool} {jj} {p2 : Pos} (ha : PE X a (tD Z Γ ma (.bl p))) : PE X (.Compare a [.Is] [.Constant (.bool z) jj p2] pos) (tD Z Γ 3 (.bl (decide (p = z)))) :=
  d_cmpS op_isBl (fun H x y Q rx ry q => by cases rx; cases ry; exact ⟨p, z, rfl, rfl, q⟩) rfl ha (d_b (z := z)) (nm _ (by decide) (by decide))
theorem d_notB {p : Bool} {z : Bool} {jj} {p2 : Pos} (ha : PE X a (tD Z Γ ma (.bl p))) : PE X (.Compare a [.IsNot] [.Constant (.bool z) jj p2] pos) (tD Z Γ 3 (.bl (!decide (p = z)))) :=
  d_cmpS op_notBl (fun H x y Q rx ry q => by cases rx; cases ry; exact ⟨p, z, rfl, rfl, q⟩) rfl ha (d_b (z := z)) (nm _ (by decide) (by decide))
theorem t_isB {p : Bool} {z : Bool} {jj} {p2 : Pos} (ha : PE X a (tD Z Γ ma (.bl p))) : PT X (.Compare a [.Is] [.Constant (.bool z) jj p2] pos) (tDT Z Γ (decide (p = z))) :=
  t_cmpS op_isBl (fun H x y Q rx ry q => by cases rx; cases ry; exact ⟨p, z, rfl, rfl, q⟩) ha (d_b (z := z)) (nm _ (by decide) (by decide))
theorem t_notB {p : Bool} {z : Bool} {jj} {p2 : Pos} (ha : PE X a (tD Z Γ ma (.bl p))) : PT X (.Compare a [.IsNot] [.Constant (.bool z) jj p2] pos) (tDT Z Γ (!decide (p = z))) :=
  t_cmpS op_notBl (fun H x y Q rx ry q => by cases rx; cases ry; exact ⟨p, z, rfl, rfl, q⟩) ha (d_b (z := z)) (nm _ (by decide) (by decide))
/-- what isinstance asks of a class of objects -/
structure IsC (K : PySem.W.Frag) (C : Addr) : Prop where
  c : Cls K C
  ha : PySem.W.findIn K (.ref C) "__class__" = some (some (.builtin "object.__class__"))
  hn : PySem.W.specialIn K (.builtin "object.__class__") "__get__" = some (some (.builtin "getset_descriptor.__get__"))
  tk : PySem.W.takesIn K (.builtin "object.__class__") = some true
  hm : PySem.W.mroIn K C (.type "object") = some true
theorem IsC.ty {K : PySem.W.Frag} {C : Addr} (c : IsC K C) {R : Hp} {v : V} {ns : List Str} (r : Rep R v (.obj C ns ds)) : TyX K R v (.ref C) := by
  cases r with
  | obj h1 _ _ => exact .base (.ins h1 c.c c.ha c.hn c.tk c.hm)
/-- isinstance(e, C), an object of an own class against an own class -/
theorem d_isCls {C D : Addr} {ns : List Str} {x : Str} {q : Bool} {pT : Pos} (hm : X.mg "isinstance" = none) (ha : PE X a (tD Z Γ ma (.obj C ns ds))) (c : IsC X.K C) (hT : X.mg x = some (.ref D)) (hk : PySem.W.kitOne X.K (.ref C) (.ref D) = some q) (hgT : Gl X x := by rfl) (hdb : (x == ("__debug__" : Str)) = false := by decide) (hg : Gl X "isinstance" := by rfl)
    {p : Pos} (he : starEach [a, .Name x pT] X.env = (false, eval a X.env) :: starEach [.Name x pT] X.env := by rfl) (he2 : starEach [.Name x pT] X.env = (false, eval (.Name x pT) X.env) :: starEach [] X.env := by rfl) (hpl : (backTo pos (starEach [.Name x pT] X.env)).any (·.1) = false := by rfl) :
    PE X (.Call (.Name "isinstance" p) [a, .Name x pT] [] pos) (tD Z Γ 3 (.bl q)) :=
  pe_imp (pe_callB call_isi hg hm (by decide +kernel) (pa_cons ha (pa_cons (pe_glob (v := .ref D) hgT hT rfl hdb) pa_nil he2) he) (by decide) (by decide) he hpl) fun σ H Q h => ⟨h.1, fun v H1 e1 r =>
    ⟨v, .ref D, .ref C, .ref D, q, rfl, .own D, c.ty (r.mono rg_le), hk, h.2 _ H1 e1 (.bl _)⟩⟩
end
end DL

set_option Elab.async false
set_option linter.all false
set_option maxRecDepth 100000
/-! HD2: from the head's facts to the text's classes. -/
namespace DL
open PySem L2
section
variable {K : PySem.W.Frag} {h : Heap} {mg : Str → Option Value} {fa : List He.Fa} {fn : List He.DefD}
theorem clsx_of {x : Str} (X : K.In h) (G : h.Ns mainGlobals mg) (c : He.SaysD fa fn K) (i j k : Nat) (hg : fa[i]? = some (.glo x)) (hc : fa[j]? = some (.cls x)) (hk : fa[k]? = some (.keep x)) : ∃ O : ClsX K mg x, O.C = He.ga K x :=
  ⟨⟨He.ga K x, He.glo_ok X G (c.fact i hg), He.cls_ok (c.fact j hc), He.keep_ok (c.fact k hk)⟩, rfl⟩
theorem mth_of {C m qual : Str} {st : Stmt} {ps : List Str} (c : He.SaysD fa fn K) (i j : Nat) (hd : fn[i]? = some ⟨(C, some m), m, qual, defArgs st, defBody st, defScope st, [], []⟩) (hg : fa[j]? = some (.meth C m))
    (hb : ∀ (kV doc pm : Value) (an : Option Addr) (cdv ct : Value) (us : List Value), us.length = ps.length → bindArgs (PySem.W.fnOf m qual (defArgs st) (defBody st) (defScope st) .none kV doc pm an cdv ct) ⟨us, []⟩ = pure (ps.zip us)) : Nonempty (Mth K (He.ga K C) m qual st ps) := by
  obtain ⟨fd, F⟩ := c.def_ i hd
  exact ⟨⟨_, fd, He5.fun_of F, He.meth_ok (c.fact j hg), F.bindsN hb⟩⟩
theorem ini_of {C qual : Str} {st : Stmt} {ps : List Str} (c : He.SaysD fa fn K) (i j : Nat) (hd : fn[i]? = some ⟨(C, some "__init__"), "__init__", qual, defArgs st, defBody st, defScope st, [], []⟩) (hg : fa[j]? = some (.mkr C))
    (hb : ∀ (kV doc pm : Value) (an : Option Addr) (cdv ct : Value) (us : List Value), us.length = ps.length → bindArgs (PySem.W.fnOf "__init__" qual (defArgs st) (defBody st) (defScope st) .none kV doc pm an cdv ct) ⟨us, []⟩ = pure (ps.zip us)) : Nonempty (Ini K (He.ga K C) qual st ps) := by
  obtain ⟨fd, F⟩ := c.def_ i hd
  exact ⟨⟨_, fd, He5.fun_of F, He.mkr_ok (c.fact j hg), F.bindsN hb⟩⟩
/-- what isinstance asks of a class of objects -/
def isCB (K : PySem.W.Frag) (D : Addr) : Bool :=
  He.eqO (PySem.W.findIn K (.ref D) "__class__") (some (some (.builtin "object.__class__"))) && (He.eqO (PySem.W.specialIn K (.builtin "object.__class__") "__get__") (some (some (.builtin "getset_descriptor.__get__"))) && (decide (PySem.W.takesIn K (.builtin "object.__class__") = some true) && decide (PySem.W.mroIn K D (.type "object") = some true)))
theorem isCB_ok {D : Addr} (cl : Cls K D) (h : isCB K D = true) : IsC K D := by
  obtain ⟨h1, h⟩ := He.ba h
  obtain ⟨h2, h⟩ := He.ba h
  obtain ⟨h3, h4⟩ := He.ba h
  exact ⟨cl, He.eqO_ok h1, He.eqO_ok h2, of_decide_eq_true h3, of_decide_eq_true h4⟩
end
end DL

set_option linter.all false
/-! M1: what the program's first defs compute, in plain Lean. -/
namespace M
open DL
/-- a number -/
def isWhole : D → Bool
  | .int _ => true
  | _ => false
def isWithin (lo hi : Int) : D → Bool
  | .int i => decide (lo ≤ i) && decide (i ≤ hi)
  | _ => false
def isGlasses (most : Int) : D → Bool
  | .lst xs => decide (1 ≤ (xs.length : Int)) && decide ((xs.length : Int) ≤ most) && xs.all (isWithin 1 12)
  | _ => false
def rising : List D → Bool
  | .int a :: .int b :: r => decide (a < b) && rising (.int b :: r)
  | _ => true
def isDeed (n : Nat) : D → Bool
  | .lst xs => xs.all (isWithin 0 ((n : Int) - 1)) && rising xs
  | _ => false
def isPlan (n : Nat) : D → Bool
  | .lst xs => decide ((xs.length : Int) ≤ 60) && xs.all (isDeed n)
  | _ => false
/-- the stand behind a deed -/
def turnedFrom (deed : List Int) : Nat → List Int → List Int → List Int
  | i, g :: gs, s :: ss => (if (i : Int) ∈ deed then g - s else s) :: turnedFrom deed (i + 1) gs ss
  | _, _, _ => []
def turned (gs ss deed : List Int) : List Int := turnedFrom deed 0 gs ss
/-- ticks till the next fall, the stand then -/
def far (ss : List Int) : Int := if ss.filter (fun x => decide (0 < x)) = [] then 0 else minI (ss.filter fun x => decide (0 < x))
def there (ss : List Int) : List Int := if ss.filter (fun x => decide (0 < x)) = [] then ss else ss.map fun x => max 0 (x - far ss)
/-- the falls of a plan; none from an idle deed on -/
def fallsFrom (gs : List Int) : Int → List Int → List (List Int) → List (Int × List Int)
  | _, _, [] => []
  | t, s, d :: ds => if far (turned gs s d) = 0 then [] else (t + far (turned gs s d), there (turned gs s d)) :: fallsFrom gs (t + far (turned gs s d)) (there (turned gs s d)) ds
def zeros (gs : List Int) : List Int := List.replicate gs.length 0
def falls (gs : List Int) (plan : List (List Int)) : List (Int × List Int) := fallsFrom gs 0 (zeros gs) plan
abbrev dP (p : Int × List Int) : D := .tup [.int p.1, dI p.2]
abbrev dL (xs : List (List Int)) : D := .lst (xs.map dI)
/-- back from data -/
def iD : D → Int
  | .int i => i
  | _ => 0
def isD : D → List Int
  | .lst xs => xs.map iD
  | _ => []
def plD : D → List (List Int)
  | .lst xs => xs.map isD
  | _ => []
theorem isD_dI (ns : List Int) : isD (dI ns) = ns := by
  show (ns.map D.int).map iD = ns
  rw [List.map_map]
  exact List.map_id'' (fun _ => rfl) ns
theorem plD_dL (p : List (List Int)) : plD (dL p) = p := by
  show (p.map dI).map isD = p
  rw [List.map_map]
  exact List.map_id'' (fun x => isD_dI x) p
theorem within_ints {lo hi : Int} : ∀ {xs : List D}, xs.all (isWithin lo hi) = true → ∃ ns : List Int, xs = ns.map .int
  | [], _ => ⟨[], rfl⟩
  | x :: xs, h => by
    obtain ⟨h1, h2⟩ := Bool.and_eq_true_iff.mp (show (_ && _) = true from h)
    obtain ⟨ns, e⟩ := within_ints h2
    cases x <;> first | (rename_i i; exact ⟨i :: ns, by rw [e]; rfl⟩) | (cases h1; done)
theorem glasses_ints {most : Int} {g : D} (h : isGlasses most g = true) : ∃ gs : List Int, g = dI gs := by
  cases g with
  | lst xs =>
    obtain ⟨_, h2⟩ := Bool.and_eq_true_iff.mp (show (_ && _) = true from h)
    obtain ⟨gs, e⟩ := within_ints h2
    exact ⟨gs, by rw [e]⟩
  | _ => cases h
theorem deed_ints {n : Nat} {d : D} (h : isDeed n d = true) : ∃ gs : List Int, d = dI gs := by
  cases d with
  | lst xs =>
    obtain ⟨h2, _⟩ := Bool.and_eq_true_iff.mp (show (_ && _) = true from h)
    obtain ⟨gs, e⟩ := within_ints h2
    exact ⟨gs, by rw [e]⟩
  | _ => cases h
theorem deeds_ints {n : Nat} : ∀ {xs : List D}, xs.all (isDeed n) = true → ∃ p : List (List Int), xs = p.map dI
  | [], _ => ⟨[], rfl⟩
  | x :: xs, h => by
    obtain ⟨h1, h2⟩ := Bool.and_eq_true_iff.mp (show (_ && _) = true from h)
    obtain ⟨ns, e⟩ := deed_ints h1
    obtain ⟨p, e2⟩ := deeds_ints h2
    exact ⟨ns :: p, by rw [e, e2]; rfl⟩
theorem plan_ints {n : Nat} {d : D} (h : isPlan n d = true) : ∃ p : List (List Int), d = dL p ∧ p.length ≤ 60 := by
  cases d with
  | lst xs =>
    obtain ⟨h1, h2⟩ := Bool.and_eq_true_iff.mp (show (_ && _) = true from h)
    obtain ⟨p, e⟩ := deeds_ints h2
    have h3 := of_decide_eq_true h1
    exact ⟨p, by rw [e], by rw [e, List.length_map] at h3; omega⟩
  | _ => cases h
end M

set_option Elab.async false
set_option linter.all false
set_option maxRecDepth 100000
namespace R
open PySem L2 DL
/-! ### the text by its places -/
def top (i : Nat) : Stmt := PySem.Challenge.pw_sandglasses_k06_whole_spans.main.body.getD i (.Pass ⟨0, 0, 0, 0⟩)
abbrev s_is_whole : Stmt := top 9
abbrev s_is_within : Stmt := top 10
abbrev s_check_glasses : Stmt := top 11
abbrev s_check_ticks : Stmt := top 12
abbrev s_turned : Stmt := top 13
abbrev s_fall_of : Stmt := top 14
abbrev s_deeds_of : Stmt := top 15
abbrev s_nexts : Stmt := top 16
abbrev s_reached : Stmt := top 17
abbrev s_measured : Stmt := top 19
abbrev s_can_fall : Stmt := top 20
abbrev s_earliest : Stmt := top 21
abbrev s_least_glasses : Stmt := top 22
abbrev s__law_cell_at : Stmt := top 24
abbrev s__law_draw : Stmt := top 25
abbrev s__law_value : Stmt := top 26
abbrev s__law_glasses : Stmt := top 27
abbrev s__law_flip : Stmt := top 28
abbrev s__law_fall : Stmt := top 29
abbrev s__law_nexts : Stmt := top 30
abbrev s__law_reached : Stmt := top 31
abbrev s__law_whole : Stmt := top 32
abbrev s__law_can : Stmt := top 33
abbrev s__law_earliest : Stmt := top 34
abbrev s__law_glasses_right : Stmt := top 35
abbrev s__law_least : Stmt := top 36
abbrev s__law_least_right : Stmt := top 37
abbrev s_law : Stmt := top 38
abbrev n_is_whole : List Str := ["thing"]
theorem sc_is_whole : FnScope n_is_whole ["thing"] (defScope s_is_whole) := ⟨rfl, rfl, rfl, by decide +kernel, rfl, by decide +kernel, by decide +kernel⟩
theorem bk_is_whole {scope : Scope} {own : List (Str × Nat)} (h : blkC n_is_whole (defScope s_is_whole) scope own = true) : BlkOk n_is_whole (defScope s_is_whole) scope own := blkOk_by h
abbrev n_is_within : List Str := ["thing", "low", "high"]
theorem sc_is_within : FnScope n_is_within ["thing", "low", "high"] (defScope s_is_within) := ⟨rfl, rfl, rfl, by decide +kernel, rfl, by decide +kernel, by decide +kernel⟩
theorem bk_is_within {scope : Scope} {own : List (Str × Nat)} (h : blkC n_is_within (defScope s_is_within) scope own = true) : BlkOk n_is_within (defScope s_is_within) scope own := blkOk_by h
abbrev n_check_glasses : List Str := ["glasses", "most", "span"]
theorem sc_check_glasses : FnScope n_check_glasses ["glasses", "most"] (defScope s_check_glasses) := ⟨rfl, rfl, rfl, by decide +kernel, rfl, by decide +kernel, by decide +kernel⟩
theorem bk_check_glasses {scope : Scope} {own : List (Str × Nat)} (h : blkC n_check_glasses (defScope s_check_glasses) scope own = true) : BlkOk n_check_glasses (defScope s_check_glasses) scope own := blkOk_by h
abbrev n_check_ticks : List Str := ["ticks"]
theorem sc_check_ticks : FnScope n_check_ticks ["ticks"] (defScope s_check_ticks) := ⟨rfl, rfl, rfl, by decide +kernel, rfl, by decide +kernel, by decide +kernel⟩
theorem bk_check_ticks {scope : Scope} {own : List (Str × Nat)} (h : blkC n_check_ticks (defScope s_check_ticks) scope own = true) : BlkOk n_check_ticks (defScope s_check_ticks) scope own := blkOk_by h
abbrev n_turned : List Str := ["glasses", "stand", "deed", "glass", "span", "sand"]
theorem sc_turned : FnScope n_turned ["glasses", "stand", "deed"] (defScope s_turned) := ⟨rfl, rfl, rfl, by decide +kernel, rfl, by decide +kernel, by decide +kernel⟩
theorem bk_turned {scope : Scope} {own : List (Str × Nat)} (h : blkC n_turned (defScope s_turned) scope own = true) : BlkOk n_turned (defScope s_turned) scope own := blkOk_by h
abbrev n_fall_of : List Str := ["stand", "some", "far", "sand"]
theorem sc_fall_of : FnScope n_fall_of ["stand"] (defScope s_fall_of) := ⟨rfl, rfl, rfl, by decide +kernel, rfl, by decide +kernel, by decide +kernel⟩
theorem bk_fall_of {scope : Scope} {own : List (Str × Nat)} (h : blkC n_fall_of (defScope s_fall_of) scope own = true) : BlkOk n_fall_of (defScope s_fall_of) scope own := blkOk_by h
abbrev n_deeds_of : List Str := ["glasses", "found", "glass", "deed"]
theorem sc_deeds_of : FnScope n_deeds_of ["glasses"] (defScope s_deeds_of) := ⟨rfl, rfl, rfl, by decide +kernel, rfl, by decide +kernel, by decide +kernel⟩
theorem bk_deeds_of {scope : Scope} {own : List (Str × Nat)} (h : blkC n_deeds_of (defScope s_deeds_of) scope own = true) : BlkOk n_deeds_of (defScope s_deeds_of) scope own := blkOk_by h
abbrev n_nexts : List Str := ["glasses", "stand", "found", "deed", "far", "there"]
theorem sc_nexts : FnScope n_nexts ["glasses", "stand"] (defScope s_nexts) := ⟨rfl, rfl, rfl, by decide +kernel, rfl, by decide +kernel, by decide +kernel⟩
theorem bk_nexts {scope : Scope} {own : List (Str × Nat)} (h : blkC n_nexts (defScope s_nexts) scope own = true) : BlkOk n_nexts (defScope s_nexts) scope own := blkOk_by h
abbrev n_reached : List Str := ["glasses", "begin", "most", "tick", "found", "stand", "deed", "far", "there"]
theorem sc_reached : FnScope n_reached ["glasses", "begin", "most"] (defScope s_reached) := ⟨rfl, rfl, rfl, by decide +kernel, rfl, by decide +kernel, by decide +kernel⟩
theorem bk_reached {scope : Scope} {own : List (Str × Nat)} (h : blkC n_reached (defScope s_reached) scope own = true) : BlkOk n_reached (defScope s_reached) scope own := blkOk_by h
abbrev n_measured : List Str := ["glasses", "stands", "tick"]
theorem sc_measured : FnScope n_measured ["glasses"] (defScope s_measured) := ⟨rfl, rfl, rfl, by decide +kernel, rfl, by decide +kernel, by decide +kernel⟩
theorem bk_measured {scope : Scope} {own : List (Str × Nat)} (h : blkC n_measured (defScope s_measured) scope own = true) : BlkOk n_measured (defScope s_measured) scope own := blkOk_by h
abbrev n_can_fall : List Str := ["glasses", "known", "begin", "ticks", "line", "here", "left", "some", "later", "deed", "far", "there", "one"]
theorem sc_can_fall : FnScope n_can_fall ["glasses", "known", "begin", "ticks"] (defScope s_can_fall) := ⟨rfl, rfl, rfl, by decide +kernel, rfl, by decide +kernel, by decide +kernel⟩
theorem bk_can_fall {scope : Scope} {own : List (Str × Nat)} (h : blkC n_can_fall (defScope s_can_fall) scope own = true) : BlkOk n_can_fall (defScope s_can_fall) scope own := blkOk_by h
abbrev n_earliest : List Str := ["glasses", "span", "stands", "known", "tick", "stand"]
theorem sc_earliest : FnScope n_earliest ["glasses", "span"] (defScope s_earliest) := ⟨rfl, rfl, rfl, by decide +kernel, rfl, by decide +kernel, by decide +kernel⟩
theorem bk_earliest {scope : Scope} {own : List (Str × Nat)} (h : blkC n_earliest (defScope s_earliest) scope own = true) : BlkOk n_earliest (defScope s_earliest) scope own := blkOk_by h
abbrev n_least_glasses : List Str := ["spans", "ticks", "found", "size", "longer", "some", "first", "glasses", "place"]
theorem sc_least_glasses : FnScope n_least_glasses ["spans", "ticks"] (defScope s_least_glasses) := ⟨rfl, rfl, rfl, by decide +kernel, rfl, by decide +kernel, by decide +kernel⟩
theorem bk_least_glasses {scope : Scope} {own : List (Str × Nat)} (h : blkC n_least_glasses (defScope s_least_glasses) scope own = true) : BlkOk n_least_glasses (defScope s_least_glasses) scope own := blkOk_by h
abbrev n__law_cell_at : List Str := ["_law_script", "_law_k"]
theorem sc__law_cell_at : FnScope n__law_cell_at ["_law_script", "_law_k"] (defScope s__law_cell_at) := ⟨rfl, rfl, rfl, by decide +kernel, rfl, by decide +kernel, by decide +kernel⟩
theorem bk__law_cell_at {scope : Scope} {own : List (Str × Nat)} (h : blkC n__law_cell_at (defScope s__law_cell_at) scope own = true) : BlkOk n__law_cell_at (defScope s__law_cell_at) scope own := blkOk_by h
abbrev n__law_draw : List Str := ["_law_cell", "_law_k", "_law_many", "_law_primes"]
theorem sc__law_draw : FnScope n__law_draw ["_law_cell", "_law_k", "_law_many"] (defScope s__law_draw) := ⟨rfl, rfl, rfl, by decide +kernel, rfl, by decide +kernel, by decide +kernel⟩
theorem bk__law_draw {scope : Scope} {own : List (Str × Nat)} (h : blkC n__law_draw (defScope s__law_draw) scope own = true) : BlkOk n__law_draw (defScope s__law_draw) scope own := blkOk_by h
abbrev n__law_value : List Str := ["_law_cell", "_law_turn", "_law_rest", "_law_blend"]
theorem sc__law_value : FnScope n__law_value ["_law_cell", "_law_turn"] (defScope s__law_value) := ⟨rfl, rfl, rfl, by decide +kernel, rfl, by decide +kernel, by decide +kernel⟩
theorem bk__law_value {scope : Scope} {own : List (Str × Nat)} (h : blkC n__law_value (defScope s__law_value) scope own = true) : BlkOk n__law_value (defScope s__law_value) scope own := blkOk_by h
abbrev n__law_glasses : List Str := ["_law_script", "_law_by", "_law_value_here", "_law_found", "_law_many", "_law_wide", "_law_at", "_law_drawn"]
theorem sc__law_glasses : FnScope n__law_glasses ["_law_script", "_law_by"] (defScope s__law_glasses) := ⟨rfl, rfl, rfl, by decide +kernel, rfl, by decide +kernel, by decide +kernel⟩
theorem bk__law_glasses {scope : Scope} {own : List (Str × Nat)} (h : blkC n__law_glasses (defScope s__law_glasses) scope own = true) : BlkOk n__law_glasses (defScope s__law_glasses) scope own := blkOk_by h
abbrev n__law_flip : List Str := ["_law_glasses_here", "_law_stand", "_law_deed", "_law_found", "_law_glass"]
theorem sc__law_flip : FnScope n__law_flip ["_law_glasses_here", "_law_stand", "_law_deed"] (defScope s__law_flip) := ⟨rfl, rfl, rfl, by decide +kernel, rfl, by decide +kernel, by decide +kernel⟩
theorem bk__law_flip {scope : Scope} {own : List (Str × Nat)} (h : blkC n__law_flip (defScope s__law_flip) scope own = true) : BlkOk n__law_flip (defScope s__law_flip) scope own := blkOk_by h
abbrev n__law_fall : List Str := ["_law_stand", "_law_far", "_law_sand"]
theorem sc__law_fall : FnScope n__law_fall ["_law_stand"] (defScope s__law_fall) := ⟨rfl, rfl, rfl, by decide +kernel, rfl, by decide +kernel, by decide +kernel⟩
theorem bk__law_fall {scope : Scope} {own : List (Str × Nat)} (h : blkC n__law_fall (defScope s__law_fall) scope own = true) : BlkOk n__law_fall (defScope s__law_fall) scope own := blkOk_by h
abbrev n__law_nexts : List Str := ["_law_glasses_here", "_law_stand", "_law_found", "_law_number", "_law_deed", "_law_far", "_law_there", "_law_at"]
theorem sc__law_nexts : FnScope n__law_nexts ["_law_glasses_here", "_law_stand"] (defScope s__law_nexts) := ⟨rfl, rfl, rfl, by decide +kernel, rfl, by decide +kernel, by decide +kernel⟩
theorem bk__law_nexts {scope : Scope} {own : List (Str × Nat)} (h : blkC n__law_nexts (defScope s__law_nexts) scope own = true) : BlkOk n__law_nexts (defScope s__law_nexts) scope own := blkOk_by h
abbrev n__law_reached : List Str := ["_law_glasses_here", "_law_ticks", "_law_tick", "_law_found", "_law_stand", "_law_deed", "_law_far", "_law_there"]
theorem sc__law_reached : FnScope n__law_reached ["_law_glasses_here", "_law_ticks"] (defScope s__law_reached) := ⟨rfl, rfl, rfl, by decide +kernel, rfl, by decide +kernel, by decide +kernel⟩
theorem bk__law_reached {scope : Scope} {own : List (Str × Nat)} (h : blkC n__law_reached (defScope s__law_reached) scope own = true) : BlkOk n__law_reached (defScope s__law_reached) scope own := blkOk_by h
abbrev n__law_whole : List Str := ["_law_number"]
theorem sc__law_whole : FnScope n__law_whole ["_law_number"] (defScope s__law_whole) := ⟨rfl, rfl, rfl, by decide +kernel, rfl, by decide +kernel, by decide +kernel⟩
theorem bk__law_whole {scope : Scope} {own : List (Str × Nat)} (h : blkC n__law_whole (defScope s__law_whole) scope own = true) : BlkOk n__law_whole (defScope s__law_whole) scope own := blkOk_by h
abbrev n__law_can : List Str := ["_law_glasses_here", "_law_known", "_law_stand", "_law_ticks", "_law_spot", "_law_found", "_law_deed", "_law_far", "_law_there"]
theorem sc__law_can : FnScope n__law_can ["_law_glasses_here", "_law_known", "_law_stand", "_law_ticks"] (defScope s__law_can) := ⟨rfl, rfl, rfl, by decide +kernel, rfl, by decide +kernel, by decide +kernel⟩
theorem bk__law_can {scope : Scope} {own : List (Str × Nat)} (h : blkC n__law_can (defScope s__law_can) scope own = true) : BlkOk n__law_can (defScope s__law_can) scope own := blkOk_by h
abbrev n__law_earliest : List Str := ["_law_glasses_here", "_law_span", "_law_known", "_law_tick", "_law_some", "_law_stand"]
theorem sc__law_earliest : FnScope n__law_earliest ["_law_glasses_here", "_law_span"] (defScope s__law_earliest) := ⟨rfl, rfl, rfl, by decide +kernel, rfl, by decide +kernel, by decide +kernel⟩
theorem bk__law_earliest {scope : Scope} {own : List (Str × Nat)} (h : blkC n__law_earliest (defScope s__law_earliest) scope own = true) : BlkOk n__law_earliest (defScope s__law_earliest) scope own := blkOk_by h
abbrev n__law_glasses_right : List Str := ["_law_glasses_here", "_law_span", "_law_spans", "_law_whole_here", "_law_due", "_law_again", "_law_found", "_law_first", "_law_tick"]
theorem sc__law_glasses_right : FnScope n__law_glasses_right ["_law_glasses_here", "_law_span"] (defScope s__law_glasses_right) := ⟨rfl, rfl, rfl, by decide +kernel, rfl, by decide +kernel, by decide +kernel⟩
theorem bk__law_glasses_right {scope : Scope} {own : List (Str × Nat)} (h : blkC n__law_glasses_right (defScope s__law_glasses_right) scope own = true) : BlkOk n__law_glasses_right (defScope s__law_glasses_right) scope own := blkOk_by h
abbrev n__law_least : List Str := ["_law_spans", "_law_ticks", "_law_size", "_law_found", "_law_number", "_law_some", "_law_place"]
theorem sc__law_least : FnScope n__law_least ["_law_spans", "_law_ticks"] (defScope s__law_least) := ⟨rfl, rfl, rfl, by decide +kernel, rfl, by decide +kernel, by decide +kernel⟩
theorem bk__law_least {scope : Scope} {own : List (Str × Nat)} (h : blkC n__law_least (defScope s__law_least) scope own = true) : BlkOk n__law_least (defScope s__law_least) scope own := blkOk_by h
abbrev n__law_least_right : List Str := ["_law_spans", "_law_ticks", "_law_handed", "_law_found", "_law_place"]
theorem sc__law_least_right : FnScope n__law_least_right ["_law_spans", "_law_ticks"] (defScope s__law_least_right) := ⟨rfl, rfl, rfl, by decide +kernel, rfl, by decide +kernel, by decide +kernel⟩
theorem bk__law_least_right {scope : Scope} {own : List (Str × Nat)} (h : blkC n__law_least_right (defScope s__law_least_right) scope own = true) : BlkOk n__law_least_right (defScope s__law_least_right) scope own := blkOk_by h
abbrev n_law : List Str := ["_law_script", "_law_glasses_here", "_law_value_here", "_law_spans", "_law_at", "_law_span"]
theorem sc_law : FnScope n_law ["_law_script"] (defScope s_law) := ⟨rfl, rfl, rfl, by decide +kernel, rfl, by decide +kernel, by decide +kernel⟩
theorem bk_law {scope : Scope} {own : List (Str × Nat)} (h : blkC n_law (defScope s_law) scope own = true) : BlkOk n_law (defScope s_law) scope own := blkOk_by h
/-- what the top has left -/
structure Txt (K : PySem.W.Frag) (mg : Str → Option Value) where
  z_min : mg "min" = none
  z_range : mg "range" = none
  z_sorted : mg "sorted" = none
  z_list : mg "list" = none
  z_enumerate : mg "enumerate" = none
  z_isinstance : mg "isinstance" = none
  z_int : mg "int" = none
  z_all : mg "all" = none
  z_len : mg "len" = none
  z_any : mg "any" = none
  z_tuple : mg "tuple" = none
  z_bool : mg "bool" = none
  z_max : mg "max" = none
  z_zip : mg "zip" = none
  c_MOST_GLASSES : ∃ t, mg "MOST_GLASSES" = some (.int 3 t)
  c_MOST_SPANS : ∃ t, mg "MOST_SPANS" = some (.int 5 t)
  c_LONGEST_SPAN : ∃ t, mg "LONGEST_SPAN" = some (.int 12 t)
  c_MOST_TICKS : ∃ t, mg "MOST_TICKS" = some (.int 40 t)
  d_is_whole : Dfn K mg "is_whole" s_is_whole ["thing"]
  d_is_within : Dfn K mg "is_within" s_is_within ["thing", "low", "high"]
  d_check_glasses : Dfn K mg "check_glasses" s_check_glasses ["glasses", "most"]
  d_check_ticks : Dfn K mg "check_ticks" s_check_ticks ["ticks"]
  d_turned : Dfn K mg "turned" s_turned ["glasses", "stand", "deed"]
  d_fall_of : Dfn K mg "fall_of" s_fall_of ["stand"]
  d_deeds_of : Dfn K mg "deeds_of" s_deeds_of ["glasses"]
  d_nexts : Dfn K mg "nexts" s_nexts ["glasses", "stand"]
  d_reached : Dfn K mg "reached" s_reached ["glasses", "begin", "most"]
  d_measured : Dfn K mg "measured" s_measured ["glasses"]
  d_can_fall : Dfn K mg "can_fall" s_can_fall ["glasses", "known", "begin", "ticks"]
  d_earliest : Dfn K mg "earliest" s_earliest ["glasses", "span"]
  d_least_glasses : Dfn K mg "least_glasses" s_least_glasses ["spans", "ticks"]
  d__law_cell_at : Dfn K mg "_law_cell_at" s__law_cell_at ["_law_script", "_law_k"]
  d__law_draw : Dfn K mg "_law_draw" s__law_draw ["_law_cell", "_law_k", "_law_many"]
  d__law_value : Dfn K mg "_law_value" s__law_value ["_law_cell", "_law_turn"]
  d__law_glasses : Dfn K mg "_law_glasses" s__law_glasses ["_law_script", "_law_by"]
  d__law_flip : Dfn K mg "_law_flip" s__law_flip ["_law_glasses_here", "_law_stand", "_law_deed"]
  d__law_fall : Dfn K mg "_law_fall" s__law_fall ["_law_stand"]
  d__law_nexts : Dfn K mg "_law_nexts" s__law_nexts ["_law_glasses_here", "_law_stand"]
  d__law_reached : Dfn K mg "_law_reached" s__law_reached ["_law_glasses_here", "_law_ticks"]
  d__law_whole : Dfn K mg "_law_whole" s__law_whole ["_law_number"]
  d__law_can : Dfn K mg "_law_can" s__law_can ["_law_glasses_here", "_law_known", "_law_stand", "_law_ticks"]
  d__law_earliest : Dfn K mg "_law_earliest" s__law_earliest ["_law_glasses_here", "_law_span"]
  d__law_glasses_right : Dfn K mg "_law_glasses_right" s__law_glasses_right ["_law_glasses_here", "_law_span"]
  d__law_least : Dfn K mg "_law_least" s__law_least ["_law_spans", "_law_ticks"]
  d__law_least_right : Dfn K mg "_law_least_right" s__law_least_right ["_law_spans", "_law_ticks"]
  d_law : Dfn K mg "law" s_law ["_law_script"]
  e_SandError : ExcX K mg "SandError"
  e_BadGlasses : ExcX K mg "BadGlasses"
  e_BadTicks : ExcX K mg "BadTicks"
end R

set_option Elab.async false
set_option linter.all false
set_option maxRecDepth 100000
set_option maxHeartbeats 0
namespace R
open PySem L2 DL
/-! ### the head: facts by names -/
def fa : List He.Fa := [.free "min", .free "range", .free "sorted", .free "list", .free "enumerate", .free "isinstance", .free "int", .free "all", .free "len", .free "any", .free "tuple", .free "bool", .free "max", .free "zip", .int "MOST_GLASSES" 3, .int "MOST_SPANS" 5, .int "LONGEST_SPAN" 12, .int "MOST_TICKS" 40, .glo "is_whole", .glo "is_within", .glo "check_glasses", .glo "check_ticks", .glo "turned", .glo "fall_of", .glo "deeds_of", .glo "nexts", .glo "reached", .glo "measured", .glo "can_fall", .glo "earliest", .glo "least_glasses", .glo "_law_cell_at", .glo "_law_draw", .glo "_law_value", .glo "_law_glasses", .glo "_law_flip", .glo "_law_fall", .glo "_law_nexts", .glo "_law_reached", .glo "_law_whole", .glo "_law_can", .glo "_law_earliest", .glo "_law_glasses_right", .glo "_law_least", .glo "_law_least_right", .glo "law", .glo "SandError", .exc "SandError", .glo "BadGlasses", .exc "BadGlasses", .glo "BadTicks", .exc "BadTicks"]
def fn0 : He.DefD := ⟨("is_whole", none), "is_whole", "is_whole", defArgs s_is_whole, defBody s_is_whole, defScope s_is_whole, [], []⟩
def fn1 : He.DefD := ⟨("is_within", none), "is_within", "is_within", defArgs s_is_within, defBody s_is_within, defScope s_is_within, [], []⟩
def fn2 : He.DefD := ⟨("check_glasses", none), "check_glasses", "check_glasses", defArgs s_check_glasses, defBody s_check_glasses, defScope s_check_glasses, [], []⟩
def fn3 : He.DefD := ⟨("check_ticks", none), "check_ticks", "check_ticks", defArgs s_check_ticks, defBody s_check_ticks, defScope s_check_ticks, [], []⟩
def fn4 : He.DefD := ⟨("turned", none), "turned", "turned", defArgs s_turned, defBody s_turned, defScope s_turned, [], []⟩
def fn5 : He.DefD := ⟨("fall_of", none), "fall_of", "fall_of", defArgs s_fall_of, defBody s_fall_of, defScope s_fall_of, [], []⟩
def fn6 : He.DefD := ⟨("deeds_of", none), "deeds_of", "deeds_of", defArgs s_deeds_of, defBody s_deeds_of, defScope s_deeds_of, [], []⟩
def fn7 : He.DefD := ⟨("nexts", none), "nexts", "nexts", defArgs s_nexts, defBody s_nexts, defScope s_nexts, [], []⟩
def fn8 : He.DefD := ⟨("reached", none), "reached", "reached", defArgs s_reached, defBody s_reached, defScope s_reached, [], []⟩
def fn9 : He.DefD := ⟨("measured", none), "measured", "measured", defArgs s_measured, defBody s_measured, defScope s_measured, [], []⟩
def fn10 : He.DefD := ⟨("can_fall", none), "can_fall", "can_fall", defArgs s_can_fall, defBody s_can_fall, defScope s_can_fall, [], []⟩
def fn11 : He.DefD := ⟨("earliest", none), "earliest", "earliest", defArgs s_earliest, defBody s_earliest, defScope s_earliest, [], []⟩
def fn12 : He.DefD := ⟨("least_glasses", none), "least_glasses", "least_glasses", defArgs s_least_glasses, defBody s_least_glasses, defScope s_least_glasses, [], []⟩
def fn13 : He.DefD := ⟨("_law_cell_at", none), "_law_cell_at", "_law_cell_at", defArgs s__law_cell_at, defBody s__law_cell_at, defScope s__law_cell_at, [], []⟩
def fn14 : He.DefD := ⟨("_law_draw", none), "_law_draw", "_law_draw", defArgs s__law_draw, defBody s__law_draw, defScope s__law_draw, [], []⟩
def fn15 : He.DefD := ⟨("_law_value", none), "_law_value", "_law_value", defArgs s__law_value, defBody s__law_value, defScope s__law_value, [], []⟩
def fn16 : He.DefD := ⟨("_law_glasses", none), "_law_glasses", "_law_glasses", defArgs s__law_glasses, defBody s__law_glasses, defScope s__law_glasses, [], []⟩
def fn17 : He.DefD := ⟨("_law_flip", none), "_law_flip", "_law_flip", defArgs s__law_flip, defBody s__law_flip, defScope s__law_flip, [], []⟩
def fn18 : He.DefD := ⟨("_law_fall", none), "_law_fall", "_law_fall", defArgs s__law_fall, defBody s__law_fall, defScope s__law_fall, [], []⟩
def fn19 : He.DefD := ⟨("_law_nexts", none), "_law_nexts", "_law_nexts", defArgs s__law_nexts, defBody s__law_nexts, defScope s__law_nexts, [], []⟩
def fn20 : He.DefD := ⟨("_law_reached", none), "_law_reached", "_law_reached", defArgs s__law_reached, defBody s__law_reached, defScope s__law_reached, [], []⟩
def fn21 : He.DefD := ⟨("_law_whole", none), "_law_whole", "_law_whole", defArgs s__law_whole, defBody s__law_whole, defScope s__law_whole, [], []⟩
def fn22 : He.DefD := ⟨("_law_can", none), "_law_can", "_law_can", defArgs s__law_can, defBody s__law_can, defScope s__law_can, [], []⟩
def fn23 : He.DefD := ⟨("_law_earliest", none), "_law_earliest", "_law_earliest", defArgs s__law_earliest, defBody s__law_earliest, defScope s__law_earliest, [], []⟩
def fn24 : He.DefD := ⟨("_law_glasses_right", none), "_law_glasses_right", "_law_glasses_right", defArgs s__law_glasses_right, defBody s__law_glasses_right, defScope s__law_glasses_right, [], []⟩
def fn25 : He.DefD := ⟨("_law_least", none), "_law_least", "_law_least", defArgs s__law_least, defBody s__law_least, defScope s__law_least, [], []⟩
def fn26 : He.DefD := ⟨("_law_least_right", none), "_law_least_right", "_law_least_right", defArgs s__law_least_right, defBody s__law_least_right, defScope s__law_least_right, [], []⟩
def fn27 : He.DefD := ⟨("law", none), "law", "law", defArgs s_law, defBody s_law, defScope s_law, [], []⟩
def fn : List He.DefD := [fn0, fn1, fn2, fn3, fn4, fn5, fn6, fn7, fn8, fn9, fn10, fn11, fn12, fn13, fn14, fn15, fn16, fn17, fn18, fn19, fn20, fn21, fn22, fn23, fn24, fn25, fn26, fn27]
def tf : List He.Defn := []
abbrev RowW : PySem.W.OpenRow := PySem.W.OpenLaw.row PySem.Challenge.rw_sandglasses_k06_whole_spans
abbrev hk (ex : PySem.W.Frag → Bool) : PySem.W.Hook := He.hookX 6 fa fn [] tf ex
def ob (ex : PySem.W.Frag → Bool) (s : PySem.W.SharedT) : He.AlX := He.obsX 6 fa fn [] tf ex (HandSHeadRun.getT s)
theorem ob_eq (ex : PySem.W.Frag → Bool) (s : PySem.W.SharedT) : ob ex s = (hk ex).obs s.abs := He.obsX_eq (HandSHeadRun.getT_eq s)
def loose : List PySem.Str := (["SandError", "BadGlasses", "BadTicks", "MOST_GLASSES", "MOST_SPANS", "LONGEST_SPAN", "MOST_TICKS", "is_whole", "is_within", "check_glasses", "check_ticks", "turned", "fall_of", "deeds_of", "nexts", "reached", "measured", "can_fall", "earliest", "least_glasses", "_law_cell_at", "_law_draw", "_law_value", "_law_glasses", "_law_flip", "_law_fall", "_law_nexts", "_law_reached", "_law_whole", "_law_can"] : List PySem.Str) ++ (["_law_earliest", "_law_glasses_right", "_law_least", "_law_least_right"] : List PySem.Str)
abbrev lawI : Nat := 38
theorem txt {K : PySem.W.Frag} {h : Heap} {mg : Str → Option Value} (X : K.In h) (G : h.Ns mainGlobals mg) (c : He.SaysD fa fn K) : ∃ T : Txt K mg, T.d_law.f = He.ga K "law" ∧ (∀ (s : Shared) (u : Value), BindsTo s T.d_law.fd ⟨[u], []⟩ [("_law_script", u)]) ∧ T.e_SandError.C = He.ga K "SandError" ∧ T.e_BadGlasses.C = He.ga K "BadGlasses" ∧ T.e_BadTicks.C = He.ga K "BadTicks" := by
  obtain ⟨D_is_whole, f_is_whole, k_is_whole, b_is_whole⟩ := dfn_of (x := "is_whole") (st := s_is_whole) (ps := ["thing"]) X G c 0 18 rfl rfl (fun _ _ _ _ _ _ us hl => match us, hl with | [_], _ => rfl)
  obtain ⟨D_is_within, f_is_within, k_is_within, b_is_within⟩ := dfn_of (x := "is_within") (st := s_is_within) (ps := ["thing", "low", "high"]) X G c 1 19 rfl rfl (fun _ _ _ _ _ _ us hl => match us, hl with | [_, _, _], _ => rfl)
  obtain ⟨D_check_glasses, f_check_glasses, k_check_glasses, b_check_glasses⟩ := dfn_of (x := "check_glasses") (st := s_check_glasses) (ps := ["glasses", "most"]) X G c 2 20 rfl rfl (fun _ _ _ _ _ _ us hl => match us, hl with | [_, _], _ => rfl)
  obtain ⟨D_check_ticks, f_check_ticks, k_check_ticks, b_check_ticks⟩ := dfn_of (x := "check_ticks") (st := s_check_ticks) (ps := ["ticks"]) X G c 3 21 rfl rfl (fun _ _ _ _ _ _ us hl => match us, hl with | [_], _ => rfl)
  obtain ⟨D_turned, f_turned, k_turned, b_turned⟩ := dfn_of (x := "turned") (st := s_turned) (ps := ["glasses", "stand", "deed"]) X G c 4 22 rfl rfl (fun _ _ _ _ _ _ us hl => match us, hl with | [_, _, _], _ => rfl)
  obtain ⟨D_fall_of, f_fall_of, k_fall_of, b_fall_of⟩ := dfn_of (x := "fall_of") (st := s_fall_of) (ps := ["stand"]) X G c 5 23 rfl rfl (fun _ _ _ _ _ _ us hl => match us, hl with | [_], _ => rfl)
  obtain ⟨D_deeds_of, f_deeds_of, k_deeds_of, b_deeds_of⟩ := dfn_of (x := "deeds_of") (st := s_deeds_of) (ps := ["glasses"]) X G c 6 24 rfl rfl (fun _ _ _ _ _ _ us hl => match us, hl with | [_], _ => rfl)
  obtain ⟨D_nexts, f_nexts, k_nexts, b_nexts⟩ := dfn_of (x := "nexts") (st := s_nexts) (ps := ["glasses", "stand"]) X G c 7 25 rfl rfl (fun _ _ _ _ _ _ us hl => match us, hl with | [_, _], _ => rfl)
  obtain ⟨D_reached, f_reached, k_reached, b_reached⟩ := dfn_of (x := "reached") (st := s_reached) (ps := ["glasses", "begin", "most"]) X G c 8 26 rfl rfl (fun _ _ _ _ _ _ us hl => match us, hl with | [_, _, _], _ => rfl)
  obtain ⟨D_measured, f_measured, k_measured, b_measured⟩ := dfn_of (x := "measured") (st := s_measured) (ps := ["glasses"]) X G c 9 27 rfl rfl (fun _ _ _ _ _ _ us hl => match us, hl with | [_], _ => rfl)
  obtain ⟨D_can_fall, f_can_fall, k_can_fall, b_can_fall⟩ := dfn_of (x := "can_fall") (st := s_can_fall) (ps := ["glasses", "known", "begin", "ticks"]) X G c 10 28 rfl rfl (fun _ _ _ _ _ _ us hl => match us, hl with | [_, _, _, _], _ => rfl)
  obtain ⟨D_earliest, f_earliest, k_earliest, b_earliest⟩ := dfn_of (x := "earliest") (st := s_earliest) (ps := ["glasses", "span"]) X G c 11 29 rfl rfl (fun _ _ _ _ _ _ us hl => match us, hl with | [_, _], _ => rfl)
  obtain ⟨D_least_glasses, f_least_glasses, k_least_glasses, b_least_glasses⟩ := dfn_of (x := "least_glasses") (st := s_least_glasses) (ps := ["spans", "ticks"]) X G c 12 30 rfl rfl (fun _ _ _ _ _ _ us hl => match us, hl with | [_, _], _ => rfl)
  obtain ⟨D__law_cell_at, f__law_cell_at, k__law_cell_at, b__law_cell_at⟩ := dfn_of (x := "_law_cell_at") (st := s__law_cell_at) (ps := ["_law_script", "_law_k"]) X G c 13 31 rfl rfl (fun _ _ _ _ _ _ us hl => match us, hl with | [_, _], _ => rfl)
  obtain ⟨D__law_draw, f__law_draw, k__law_draw, b__law_draw⟩ := dfn_of (x := "_law_draw") (st := s__law_draw) (ps := ["_law_cell", "_law_k", "_law_many"]) X G c 14 32 rfl rfl (fun _ _ _ _ _ _ us hl => match us, hl with | [_, _, _], _ => rfl)
  obtain ⟨D__law_value, f__law_value, k__law_value, b__law_value⟩ := dfn_of (x := "_law_value") (st := s__law_value) (ps := ["_law_cell", "_law_turn"]) X G c 15 33 rfl rfl (fun _ _ _ _ _ _ us hl => match us, hl with | [_, _], _ => rfl)
  obtain ⟨D__law_glasses, f__law_glasses, k__law_glasses, b__law_glasses⟩ := dfn_of (x := "_law_glasses") (st := s__law_glasses) (ps := ["_law_script", "_law_by"]) X G c 16 34 rfl rfl (fun _ _ _ _ _ _ us hl => match us, hl with | [_, _], _ => rfl)
  obtain ⟨D__law_flip, f__law_flip, k__law_flip, b__law_flip⟩ := dfn_of (x := "_law_flip") (st := s__law_flip) (ps := ["_law_glasses_here", "_law_stand", "_law_deed"]) X G c 17 35 rfl rfl (fun _ _ _ _ _ _ us hl => match us, hl with | [_, _, _], _ => rfl)
  obtain ⟨D__law_fall, f__law_fall, k__law_fall, b__law_fall⟩ := dfn_of (x := "_law_fall") (st := s__law_fall) (ps := ["_law_stand"]) X G c 18 36 rfl rfl (fun _ _ _ _ _ _ us hl => match us, hl with | [_], _ => rfl)
  obtain ⟨D__law_nexts, f__law_nexts, k__law_nexts, b__law_nexts⟩ := dfn_of (x := "_law_nexts") (st := s__law_nexts) (ps := ["_law_glasses_here", "_law_stand"]) X G c 19 37 rfl rfl (fun _ _ _ _ _ _ us hl => match us, hl with | [_, _], _ => rfl)
  obtain ⟨D__law_reached, f__law_reached, k__law_reached, b__law_reached⟩ := dfn_of (x := "_law_reached") (st := s__law_reached) (ps := ["_law_glasses_here", "_law_ticks"]) X G c 20 38 rfl rfl (fun _ _ _ _ _ _ us hl => match us, hl with | [_, _], _ => rfl)
  obtain ⟨D__law_whole, f__law_whole, k__law_whole, b__law_whole⟩ := dfn_of (x := "_law_whole") (st := s__law_whole) (ps := ["_law_number"]) X G c 21 39 rfl rfl (fun _ _ _ _ _ _ us hl => match us, hl with | [_], _ => rfl)
  obtain ⟨D__law_can, f__law_can, k__law_can, b__law_can⟩ := dfn_of (x := "_law_can") (st := s__law_can) (ps := ["_law_glasses_here", "_law_known", "_law_stand", "_law_ticks"]) X G c 22 40 rfl rfl (fun _ _ _ _ _ _ us hl => match us, hl with | [_, _, _, _], _ => rfl)
  obtain ⟨D__law_earliest, f__law_earliest, k__law_earliest, b__law_earliest⟩ := dfn_of (x := "_law_earliest") (st := s__law_earliest) (ps := ["_law_glasses_here", "_law_span"]) X G c 23 41 rfl rfl (fun _ _ _ _ _ _ us hl => match us, hl with | [_, _], _ => rfl)
  obtain ⟨D__law_glasses_right, f__law_glasses_right, k__law_glasses_right, b__law_glasses_right⟩ := dfn_of (x := "_law_glasses_right") (st := s__law_glasses_right) (ps := ["_law_glasses_here", "_law_span"]) X G c 24 42 rfl rfl (fun _ _ _ _ _ _ us hl => match us, hl with | [_, _], _ => rfl)
  obtain ⟨D__law_least, f__law_least, k__law_least, b__law_least⟩ := dfn_of (x := "_law_least") (st := s__law_least) (ps := ["_law_spans", "_law_ticks"]) X G c 25 43 rfl rfl (fun _ _ _ _ _ _ us hl => match us, hl with | [_, _], _ => rfl)
  obtain ⟨D__law_least_right, f__law_least_right, k__law_least_right, b__law_least_right⟩ := dfn_of (x := "_law_least_right") (st := s__law_least_right) (ps := ["_law_spans", "_law_ticks"]) X G c 26 44 rfl rfl (fun _ _ _ _ _ _ us hl => match us, hl with | [_, _], _ => rfl)
  obtain ⟨D_law, f_law, k_law, b_law⟩ := dfn_of (x := "law") (st := s_law) (ps := ["_law_script"]) X G c 27 45 rfl rfl (fun _ _ _ _ _ _ us hl => match us, hl with | [_], _ => rfl)
  obtain ⟨E_SandError, w_SandError⟩ := excx_of (x := "SandError") X G c 46 47 rfl rfl
  obtain ⟨E_BadGlasses, w_BadGlasses⟩ := excx_of (x := "BadGlasses") X G c 48 49 rfl rfl
  obtain ⟨E_BadTicks, w_BadTicks⟩ := excx_of (x := "BadTicks") X G c 50 51 rfl rfl
  exact ⟨{ z_min := He.free_ok X G (c.fact 0 (f := .free "min") rfl), z_range := He.free_ok X G (c.fact 1 (f := .free "range") rfl), z_sorted := He.free_ok X G (c.fact 2 (f := .free "sorted") rfl), z_list := He.free_ok X G (c.fact 3 (f := .free "list") rfl), z_enumerate := He.free_ok X G (c.fact 4 (f := .free "enumerate") rfl), z_isinstance := He.free_ok X G (c.fact 5 (f := .free "isinstance") rfl), z_int := He.free_ok X G (c.fact 6 (f := .free "int") rfl), z_all := He.free_ok X G (c.fact 7 (f := .free "all") rfl), z_len := He.free_ok X G (c.fact 8 (f := .free "len") rfl), z_any := He.free_ok X G (c.fact 9 (f := .free "any") rfl), z_tuple := He.free_ok X G (c.fact 10 (f := .free "tuple") rfl), z_bool := He.free_ok X G (c.fact 11 (f := .free "bool") rfl), z_max := He.free_ok X G (c.fact 12 (f := .free "max") rfl), z_zip := He.free_ok X G (c.fact 13 (f := .free "zip") rfl), c_MOST_GLASSES := He.int_ok X G (c.fact 14 (f := .int "MOST_GLASSES" 3) rfl), c_MOST_SPANS := He.int_ok X G (c.fact 15 (f := .int "MOST_SPANS" 5) rfl), c_LONGEST_SPAN := He.int_ok X G (c.fact 16 (f := .int "LONGEST_SPAN" 12) rfl), c_MOST_TICKS := He.int_ok X G (c.fact 17 (f := .int "MOST_TICKS" 40) rfl), d_is_whole := D_is_whole, d_is_within := D_is_within, d_check_glasses := D_check_glasses, d_check_ticks := D_check_ticks, d_turned := D_turned, d_fall_of := D_fall_of, d_deeds_of := D_deeds_of, d_nexts := D_nexts, d_reached := D_reached, d_measured := D_measured, d_can_fall := D_can_fall, d_earliest := D_earliest, d_least_glasses := D_least_glasses, d__law_cell_at := D__law_cell_at, d__law_draw := D__law_draw, d__law_value := D__law_value, d__law_glasses := D__law_glasses, d__law_flip := D__law_flip, d__law_fall := D__law_fall, d__law_nexts := D__law_nexts, d__law_reached := D__law_reached, d__law_whole := D__law_whole, d__law_can := D__law_can, d__law_earliest := D__law_earliest, d__law_glasses_right := D__law_glasses_right, d__law_least := D__law_least, d__law_least_right := D__law_least_right, d_law := D_law, e_SandError := E_SandError, e_BadGlasses := E_BadGlasses, e_BadTicks := E_BadTicks }, f_law, fun s u => b_law s [u] rfl, w_SandError, w_BadGlasses, w_BadTicks⟩
end R

set_option Elab.async false
set_option linter.all false
set_option maxRecDepth 100000
set_option maxHeartbeats 4000000
namespace R
open PySem L2 DL M
section
variable {P : Program} {w : World} {K : PySem.W.Frag} {mg : Str → Option Value} {base : Heap}
abbrev sp_is_whole : Sp := Pur (fun d : D => [d]) (fun d => knd d = true) fun d => .bl (isWhole d)
theorem ok_is_whole (T : Txt K mg) : FnOk P w K mg base CX0 1 T.d_is_whole.f T.d_is_whole.fd ["thing"] sp_is_whole := by
  refine Fun.pur T.d_is_whole.F sc_is_whole (fun _ => rfl) (by decide) fun cdv A outer s H σ E Q d hr hp h q => ?_
  obtain ⟨t, ht⟩ := knd_ty hp
  refine w_ret (d_and (d_isi T.z_isinstance (d_x 0 rfl) T.z_int ht (kb_int ht)) fun _ => d_and1 (d_not (d_isi T.z_isinstance (d_x 0 rfl) T.z_bool ht (kb_bool ht)))) h fun v H' ex r => q v H' ex ?_
  have e : D.bl (isIntD d && !isBlD d) = D.bl (isWhole d) := by cases d <;> rfl
  rw [← e]
  exact ret_new (by decide) (Ex.refl _) r
abbrev sp_is_within : Sp := Pur (fun a : D × Int × Int => [a.1, .int a.2.1, .int a.2.2]) (fun a => knd a.1 = true) fun a => .bl (isWithin a.2.1 a.2.2 a.1)
theorem whole_int {d : D} (h : isWhole d = true) : ∃ i, d = .int i := by
  cases d <;> first | exact ⟨_, rfl⟩ | cases h
theorem ok_is_within (T : Txt K mg) : FnOk P w K mg base CX0 2 T.d_is_within.f T.d_is_within.fd ["thing", "low", "high"] sp_is_within := by
  refine Fun.pur T.d_is_within.F sc_is_within (fun _ => rfl) (by decide) fun cdv A outer s H σ E Q a hr hp h q => ?_
  obtain ⟨d, lo, hi⟩ := a
  refine w_ret (d := .bl (isWithin lo hi d)) (m := 3) (d_eq (d_and (q := isWithin lo hi d) (mb := 3) (d_fn T.d_is_whole (ok_is_whole T) hr pass0 (Pur.gives d hp) (a_cons (d_x 0 rfl) a_nil)) fun hw => ?_) ?_) h fun v H' ex r => q v H' ex (ret_new (by decide) (Ex.refl _) r)
  · obtain ⟨i, rfl⟩ := whole_int hw
    exact d_and1 (d_lele (d_x 1 rfl) (d_x 0 rfl) (d_x 2 rfl))
  · cases d <;> rfl
theorem not_lst {d : D} (h : ¬ ∃ xs, d = .lst xs) : isLstD d = false := by cases d <;> first | rfl | exact absurd ⟨_, rfl⟩ h
abbrev sp_check_glasses (C : Addr) : Sp := PurX (fun a : D × Int => [a.1, .int a.2]) (fun a => knd1 a.1 = true) fun a => if isGlasses a.2 a.1 then .inr .non else .inl C
theorem ok_check_glasses (T : Txt K mg) : FnOk P w K mg base (L2.CX P w) 3 T.d_check_glasses.f T.d_check_glasses.fd ["glasses", "most"] (sp_check_glasses T.e_BadGlasses.C) := by
  refine Fun.purX T.d_check_glasses.F sc_check_glasses (fun _ => rfl) (by decide) fun cdv A outer s H σ E Q a hr hp h q => ?_
  obtain ⟨d, most⟩ := a
  obtain ⟨t, ht⟩ := knd_ty (knd1_knd hp)
  have nd := sc_check_glasses.nd
  have bad : isGlasses most d = false → ∀ H', Ex H H' → E (.ref T.e_BadGlasses.C) none H' := fun hb => by
    dsimp only at q
    rw [hb] at q
    exact q
  by_cases hl : ∃ xs, d = .lst xs
  · obtain ⟨xs, rfl⟩ := hl
    obtain ⟨hn, hx⟩ := Bool.and_eq_true_iff.mp (show (_ && _) = true from hp)
    refine w_if (t_bool (w_or (t_not (t_val (d_isi T.z_isinstance (d_x 0 rfl) T.z_list ht (kb_list ht)))) fun _ => w_or1 (t_not (t_lele d_i (d_len T.z_len (d_x 0 rfl)) (d_x 1 rfl))))) h (fun hb H1 e1 h1 => ?_) fun hb H1 e1 h1 => ?_
    · refine w_raise T.e_BadGlasses (takes_of rfl rfl rfl rfl) (bad ?_ _ e1)
      show (_ && _) = false
      cases q' : (decide (1 ≤ (xs.length : Int)) && decide ((xs.length : Int) ≤ most)) with
      | false => rfl
      | true => rw [q'] at hb; cases hb
    · have hb' : (decide (1 ≤ (xs.length : Int)) && decide ((xs.length : Int) ≤ most)) = true := by
        cases q' : (decide (1 ≤ (xs.length : Int)) && decide ((xs.length : Int) ≤ most)) with
        | true => rfl
        | false => rw [q'] at hb; cases hb
      refine w_end ?_
      refine w_if (t_not (t_val (d_allc (p := isWithin 1 12) (enc := id) (ys := xs) T.z_all [("span", 2)] (.nm 2) (i_list (d_eq (d_x 0 rfl) (by rw [List.map_id]))) (fun s H' C cl fp => p_nm 2 nd)
        (fun i y Z' hy hz => ⟨_, rfl, fun s H' C cl fp => pts_nilD, fun _ s H' C cl fp => d_fn T.d_is_within (ok_is_within T) hr pass0 (Pur.gives (y, 1, 12) (all_at hx hy)) (a_cons (d_x 2 rfl) (a_cons d_i (a_cons (d_gc T.c_LONGEST_SPAN) a_nil)))⟩)
        (lenOk_le hn) nd (bk_check_glasses (by decide +kernel))))) h1 (fun hb2 H2 e2 h2 => ?_) fun hb2 H2 e2 h2 => ?_
      · refine w_raise T.e_BadGlasses (takes_of rfl rfl rfl rfl) (bad ?_ _ (e1.trans e2))
        show (_ && _) = false
        cases q' : xs.all (isWithin 1 12) with
        | false => rw [Bool.and_false]
        | true => rw [q'] at hb2; cases hb2
      · refine w_end (wp_nil ?_)
        have hg : isGlasses most (.lst xs) = true := by
          show (_ && _) = true
          rw [hb', Bool.true_and]
          cases q' : xs.all (isWithin 1 12) with
          | true => rfl
          | false => rw [q'] at hb2; cases hb2
        dsimp only at q
        rw [hg] at q
        exact q .non H2 (e1.trans e2) .non
  · have hq := not_lst hl
    refine w_if (b := true) (t_eq (t_bool (w_or (q := true) (t_not (t_val (d_isi T.z_isinstance (d_x 0 rfl) T.z_list ht (kb_list ht)))) fun hz => by rw [hq] at hz; cases hz)) (by rw [hq]; rfl)) h (fun _ H1 e1 h1 => ?_) fun hb => by cases hb
    refine w_raise T.e_BadGlasses (takes_of rfl rfl rfl rfl) (bad ?_ _ e1)
    cases d <;> first | rfl | exact absurd ⟨_, rfl⟩ hl
end
end R

set_option Elab.async false
set_option linter.all false
set_option maxRecDepth 100000
set_option maxHeartbeats 4000000
namespace R
open PySem L2 DL M
section
variable {P : Program} {w : World} {K : PySem.W.Frag} {mg : Str → Option Value} {base : Heap}
/-- turned -/
theorem ez_turned (deed : List Int) : ∀ (i : Nat) (gs ss : List Int), ((ezI i gs ss).map fun p => if ((p.1 : Nat) : Int) ∈ deed then p.2.1 - p.2.2 else p.2.2) = turnedFrom deed i gs ss
  | _, [], _ => by unfold ezI turnedFrom; rfl
  | _, _ :: _, [] => by unfold ezI turnedFrom; rfl
  | i, g :: gs, s :: ss => by
    show _ :: _ = _ :: _
    rw [ez_turned deed (i + 1) gs ss]
abbrev sp_turned : Sp := Pur (fun a : List Int × List Int × List Int => [dI a.1, dI a.2.1, dI a.2.2]) (fun a => a.1.length = a.2.1.length ∧ a.1.length ≤ 1000000) fun a => dI (turned a.1 a.2.1 a.2.2)
theorem ok_turned (T : Txt K mg) : FnOk P w K mg base CX0 1 T.d_turned.f T.d_turned.fd ["glasses", "stand", "deed"] sp_turned := by
  refine Fun.pur T.d_turned.F sc_turned (fun _ => rfl) (by decide) fun cdv A outer s H σ E Q a hr hp h q => ?_
  obtain ⟨gs, ss, deed⟩ := a
  have nd := sc_turned.nd
  have e : D.lst ((((ezI 0 gs ss).filter fun _ => true).map fun p => .int (if ((p.1 : Nat) : Int) ∈ deed then p.2.1 - p.2.2 else p.2.2))) = dI (turned gs ss deed) := by
    rw [lc_all, map_str, ez_turned]; rfl
  refine w_ret (d_eq (d_lc (me := 2) (enc := fun p : Nat × Int × Int => .tup [.int (p.1 : Int), .tup [.int p.2.1, .int p.2.2]]) (ys := ezI 0 gs ss) (tst := fun _ => true) [("glass", 3), ("span", 4), ("sand", 5)] (.tp [.nm 3, .tp [.nm 4, .nm 5]])
    (by rw [← ez_ints]; exact i_ez T.z_zip T.z_enumerate (d_x 0 rfl) (d_x 1 rfl) (by rw [List.length_map, List.length_map]; exact hp.1))
    (fun s H' C cl fp => p_tp (q_cons (p_nm 3 nd) (q_cons (p_tp (q_cons (p_nm 4 nd) (q_cons (p_nm 5 nd) q_nil))) q_nil)))
    (fun i y Z' hy hz => ⟨_, rfl, fun s H' C cl fp => pts_nilD, fun _ s H' C cl fp => d_eq (d_if (m := 2) (t_in (d_x 3 rfl) (d_x 2 rfl)) (fun _ => d_w (d_sub (d_x 4 rfl) (d_x 5 rfl)) (by decide)) fun _ => d_sc (d_x 5 rfl) rfl) (by by_cases hq : ((y.1 : Nat) : Int) ∈ deed <;> simp [hq])⟩)
    (Nat.le_trans (ezI_len 0 gs ss) hp.2) nd (bk_turned (by decide +kernel))) e) h fun v H2 e2 r => q v H2 e2 (ret_new (by decide) (Ex.refl _) r)
/-- fall_of -/
abbrev sp_fall_of : Sp := Pur (fun ss : List Int => [dI ss]) (fun ss => ss.length ≤ 1000000) fun ss => .tup [.int (far ss), dI (there ss)]
theorem ok_fall_of (T : Txt K mg) : FnOk P w K mg base CX0 1 T.d_fall_of.f T.d_fall_of.fd ["stand"] sp_fall_of := by
  refine Fun.pur T.d_fall_of.F sc_fall_of (fun _ => rfl) (by decide) fun cdv A outer s H σ E Q ss hr hp h q => ?_
  have nd := sc_fall_of.nd
  refine w_lc (me := 2) (enc := D.int) (ys := ss) (tst := fun x => decide (0 < x)) (f := D.int) 1 [("sand", 3)] (.nm 3) (i_list (d_x 0 rfl)) (fun s H' C cl fp => p_nm 3 nd)
    (fun i y Z' hy hz => ⟨_, rfl, fun s H' C cl fp => pts_oneD (t_gt (d_x 3 rfl) d_i), fun _ s H' C cl fp => d_sc (d_x 3 rfl) rfl⟩) h (fun σ1 H1 e1 h1 => ?_) hp nd (bk_fall_of (by decide +kernel)) rfl
  generalize hS : ss.filter (fun x => decide (0 < x)) = some' at h1
  refine w_if (t_eq (t_deq hr.units (d_x 1 rfl) (d_lst a_nil (by decide)) (cq_dI some' (n := 1)).eqOk (cq_lst (n := 1) (fun x hx => absurd hx (by simp))).eqOk) (deq_ints some' [])) h1 (fun hb H2 e2 h2 => ?_) fun hb H2 e2 h2 => ?_
  · have hb' := of_decide_eq_true hb
    have ef : far ss = 0 := by unfold far; rw [hS, if_pos hb']
    have et : there ss = ss := by unfold there; rw [hS, if_pos hb']
    refine w_ret (d_tup (a_cons d_i (a_cons (d_listS T.z_list (d_x 0 rfl) (scL_ints ss)) a_nil)) (show 2 ≤ sizeLine by decide)) h2 fun v H3 e3 r => q v H3 (e1.trans (e2.trans e3)) ?_
    rw [ef, et]
    exact ret_new (by decide) (e1.trans e2) r
  · have hb' := of_decide_eq_false hb
    have ef : far ss = minI some' := by unfold far; rw [hS, if_neg hb']
    have et : there ss = ss.map fun x => max 0 (x - minI some') := by unfold there; rw [hS, if_neg hb', ef]
    refine w_end ?_
    refine w_set 2 (d_min T.z_min (d_x 1 rfl) hb') h2 (fun σ3 H3 e3 h3 => ?_) nd
    refine w_ret (d_tup (a_cons (d_x 2 rfl) (a_cons (d_lc (me := 2) (enc := D.int) (ys := ss) (tst := fun _ => true) (f := fun x => .int (max 0 (x - minI some'))) [("sand", 3)] (.nm 3) (i_list (d_x 0 rfl)) (fun s H' C cl fp => p_nm 3 nd)
      (fun i y Z' hy hz => ⟨_, rfl, fun s H' C cl fp => pts_nilD, fun _ s H' C cl fp => d_w (d_max2 T.z_max d_i (d_sub (d_x 3 rfl) (d_x 2 rfl))) (by decide)⟩) hp nd (bk_fall_of (by decide +kernel))) a_nil)) (show 2 ≤ sizeLine by decide)) h3 fun v H4 e4 r => q v H4 (e1.trans (e2.trans (e3.trans e4))) ?_
    rw [ef, et, ← map_str, ← lc_all]
    exact ret_new (by decide) (e1.trans (e2.trans e3)) r
/-- falls_of -/
theorem turned_len (deed : List Int) : ∀ (i : Nat) (gs ss : List Int), gs.length = ss.length → (turnedFrom deed i gs ss).length = ss.length
  | _, [], [], _ => by unfold turnedFrom; rfl
  | _, [], _ :: _, h => by simp at h
  | _, _ :: _, [], h => by simp at h
  | i, g :: gs, s :: ss, h => by
    unfold turnedFrom
    rw [List.length_cons, List.length_cons, turned_len deed (i + 1) gs ss (by simpa using h)]
theorem there_len (ss : List Int) : (there ss).length = ss.length := by unfold there; split <;> simp
theorem step_len {gs ss : List Int} (deed : List Int) (h : gs.length = ss.length) : gs.length = (there (turned gs ss deed)).length := by
  rw [there_len]; unfold turned; rw [turned_len deed 0 gs ss h]; exact h
/-- where a plan has got to: falls, tick, stand; none once idle -/
def fallsAt (gs : List Int) : List (List Int) → Option (List (Int × List Int) × Int × List Int)
  | [] => some ([], 0, zeros gs)
  | _ => none
end
end R

set_option Elab.async false
set_option linter.all false
set_option maxRecDepth 100000
set_option maxHeartbeats 4000000
namespace R
open PySem L2 DL M
section
variable {P : Program} {w : World} {K : PySem.W.Frag} {mg : Str → Option Value} {base : Heap}
theorem dL_get {plan : List (List Int)} {i : Nat} {d : D} (h : (plan.map dI)[i]? = some d) : ∃ hi : i < plan.length, d = dI plan[i] := by
  rw [List.getElem?_map] at h
  have hi : i < plan.length := by
    apply Classical.byContradiction
    intro hn
    rw [List.getElem?_eq_none (by omega)] at h; cases h
  rw [List.getElem?_eq_getElem hi] at h
  exact ⟨hi, (Option.some.inj h).symm⟩
theorem fallsFrom_len (gs : List Int) : ∀ (t : Int) (s : List Int) (ds : List (List Int)), (fallsFrom gs t s ds).length ≤ ds.length
  | _, _, [] => Nat.zero_le _
  | t, s, d :: ds => by
    unfold fallsFrom
    split
    · exact Nat.zero_le _
    · exact Nat.succ_le_succ (fallsFrom_len gs _ _ ds)
/-- run -/
def lenD : D → Nat
  | .lst xs => xs.length
  | _ => 0
def runRes (Cg Cp Ci : Addr) (a : D × D) : Addr ⊕ D :=
  if isGlasses 3 a.1 then
    if isPlan (lenD a.1) a.2 then
      if ((falls (isD a.1) (plD a.2)).length : Int) < ((plD a.2).length : Int) then .inl Ci else .inr (.lst ((falls (isD a.1) (plD a.2)).map dP))
    else .inl Cp
  else .inl Cg
end
end R

set_option linter.all false
set_option maxRecDepth 100000
/-! M2: what the laws' own first helpers compute, in plain Lean. -/
namespace M
open PySem DL
def cellAt (sc : List Int) (k : Nat) : Int := sc.getD k 0
def primesL : List Int := [1000003, 1000033, 1000037, 1000039, 1000081, 1000099, 1000117, 1000121, 1000133, 1000151, 1000159, 1000171, 1000183, 1000187, 1000193, 1000199]
def pr (k : Nat) : Int := primesL.getD (k % 16) 1
theorem pr_pos (k : Nat) : 0 < pr k := by
  have h : ∀ j, j < 16 → 0 < primesL.getD j 1 := by decide
  exact h _ (Nat.mod_lt _ (by decide))
theorem pr_get (k : Nat) : (primesL.map D.int)[k % 16]? = some (.int (pr k)) := by
  have h : ∀ j, j < 16 → (primesL.map D.int)[j]? = some (.int (primesL.getD j 1)) := by
    intro j hj
    rw [List.getElem?_map, List.getD_eq_getElem?_getD]
    have hl : j < primesL.length := hj
    rw [List.getElem?_eq_getElem hl]; rfl
  exact h _ (Nat.mod_lt _ (by decide))
def draw (cell : Int) (k : Nat) (many : Int) : Int := (cell * 48271 + (k : Int) * 69621) % pr k % many
def value (cell : Int) (turn : Nat) : Int :=
  if 10 ^ 18 ≤ cell then ((cell - 10 ^ 18) % 10 ^ 40) / 2 ^ (3 * turn)
  else draw ((cell % 10 ^ 18 + 977 * (turn : Int)) * (cell % 10 ^ 18 + 31 * (turn : Int) + 5)) (turn % 9 + 1) 999983 * 1000003 + draw ((cell % 10 ^ 18 + 31 * (turn : Int)) * (cell % 10 ^ 18 + 7) + 977 * (turn : Int)) (turn % 7 + 2) 1000003
theorem draw_nn (cell : Int) (k : Nat) {many : Int} (h : 0 < many) : 0 ≤ draw cell k many ∧ draw cell k many < many := ⟨Int.emod_nonneg _ (by omega), Int.emod_lt_of_pos _ h⟩
theorem value_nn (cell : Int) (turn : Nat) : 0 ≤ value cell turn := by
  unfold value
  split
  · exact Int.ediv_nonneg (Int.emod_nonneg _ (by decide)) (Int.pow_nonneg (by decide))
  · have h1 := (draw_nn ((cell % 10 ^ 18 + 977 * (turn : Int)) * (cell % 10 ^ 18 + 31 * (turn : Int) + 5)) (turn % 9 + 1) (many := 999983) (by decide)).1
    have h2 := (draw_nn ((cell % 10 ^ 18 + 31 * (turn : Int)) * (cell % 10 ^ 18 + 7) + 977 * (turn : Int)) (turn % 7 + 2) (many := 1000003) (by decide)).1
    omega
/-- glasses by the cells -/
def manyL : List Int := [1, 2, 2, 2, 3]
def many (v : Int) : Int := manyL.getD (v % 5).toNat 1
def lglasses (sc : List Int) (by_ : Nat) : List Int := (List.range (many (value (cellAt sc by_) 3)).toNat).map fun k => 1 + value (cellAt sc (by_ + k) + 37 * (k : Int)) (k + 4) / 3 % (if many (value (cellAt sc by_) 3) < 3 then 12 else 6)
theorem many_get (v : Int) : (manyL.map D.int)[(v % 5).toNat]? = some (.int (many v)) := by
  have h : ∀ j, j < 5 → (manyL.map D.int)[j]? = some (.int (manyL.getD j 1)) := by
    intro j hj
    rw [List.getElem?_map, List.getD_eq_getElem?_getD]
    have hl : j < manyL.length := hj
    rw [List.getElem?_eq_getElem hl]; rfl
  have h1 := Int.emod_nonneg v (b := 5) (by decide)
  have h2 := Int.emod_lt_of_pos v (b := 5) (by decide)
  exact h _ (by omega)
theorem many_le (v : Int) : 1 ≤ many v ∧ many v ≤ 3 := by
  have h : ∀ j, j < 5 → 1 ≤ manyL.getD j 1 ∧ manyL.getD j 1 ≤ 3 := by decide
  have h1 := Int.emod_nonneg v (b := 5) (by decide)
  have h2 := Int.emod_lt_of_pos v (b := 5) (by decide)
  exact h _ (by omega)
/-- glasses as they may be -/
structure Gl (gs : List Int) : Prop where
  lo : 1 ≤ gs.length
  hi : gs.length ≤ 3
  all : ∀ g ∈ gs, 1 ≤ g ∧ g ≤ 12
theorem lglasses_ok (sc : List Int) (k : Nat) : Gl (lglasses sc k) := by
  have h := many_le (value (cellAt sc k) 3)
  refine ⟨?_, ?_, fun g hg => ?_⟩
  · unfold lglasses; rw [List.length_map, List.length_range]; omega
  · unfold lglasses; rw [List.length_map, List.length_range]; omega
  · unfold lglasses at hg
    obtain ⟨j, _, rfl⟩ := List.mem_map.mp hg
    split
    · have h1 := Int.emod_nonneg (value (cellAt sc (k + j) + 37 * (j : Int)) (j + 4) / 3) (b := 12) (by decide)
      have h2 := Int.emod_lt_of_pos (value (cellAt sc (k + j) + 37 * (j : Int)) (j + 4) / 3) (b := 12) (by decide)
      omega
    · have h1 := Int.emod_nonneg (value (cellAt sc (k + j) + 37 * (j : Int)) (j + 4) / 3) (b := 6) (by decide)
      have h2 := Int.emod_lt_of_pos (value (cellAt sc (k + j) + 37 * (j : Int)) (j + 4) / 3) (b := 6) (by decide)
      omega
/-- the law's own turning and falling -/
def lflip1 (gs ss : List Int) (g : Int) : List Int := ss.set g.toNat (gs.getD g.toNat 0 - ss.getD g.toNat 0)
def lflip (gs ss deed : List Int) : List Int := deed.foldl (lflip1 gs) ss
def lfar (ss : List Int) : Int := minI (ss.filter (fun x => decide (0 < x)) ++ [99])
def lthere (ss : List Int) : List Int := ss.map fun x => max 0 (x - lfar ss)
/-- the deed of a number -/
def bitIn (number : Nat) (k : Nat) : Bool := decide (Builtin.bitAnd ((number : Int) / 2 ^ k) 1 = 1)
def deedOf (n number : Nat) : List Int := ((List.range n).filter (bitIn number)).map fun (k : Nat) => (k : Int)
abbrev Nx : Type := List Int × Int × List Int
abbrev dN (x : Nx) : D := .tup [dI x.1, .int x.2.1, dI x.2.2]
def nx1 (gs ss : List Int) (number : Nat) : Nx := (deedOf gs.length number, lfar (lflip gs ss (deedOf gs.length number)), lthere (lflip gs ss (deedOf gs.length number)))
def lnx (gs ss : List Int) : List Nx := ((List.range (2 ^ gs.length)).map (nx1 gs ss)).filter fun x => decide (x.2.1 < 99)
def lnexts (gs ss : List Int) : List Nx := (lnx gs ss).mergeSort fun a b => leD (dN a) (dN b)
theorem lnexts_mem {gs ss : List Int} {x : Nx} : x ∈ lnexts gs ss ↔ x ∈ lnx gs ss := List.mem_mergeSort
theorem sort_dN (xs : List Nx) : sortD (xs.map dN) = (xs.mergeSort fun a b => leD (dN a) (dN b)).map dN := by
  unfold sortD
  exact (List.map_mergeSort (f := dN) fun x _ y _ => rfl).symm
theorem toPyL_ints : ∀ ns : List Int, toPyL (ns.map D.int) = ns.map PyData.int
  | [] => rfl
  | n :: ns => by
    rw [List.map_cons, List.map_cons]
    unfold toPyL
    rw [toPyL_ints ns]; rfl
theorem alike_dI (a b : List Int) : W.alike (toPy (dI a)) (toPy (dI b)) = true := by
  unfold toPy W.alike
  rw [toPyL_ints, toPyL_ints]
  exact W.alike_ints a b
theorem cq_dN (x : Nx) : Cq 2 (dN x) := cq_tup fun y hy => by
  rcases List.mem_cons.mp hy with e | hy
  · rw [e]; exact cq_dI _
  · rcases List.mem_cons.mp hy with e | hy
    · rw [e]; exact cq_int _
    · rw [List.mem_singleton.mp hy]; exact cq_dI _
theorem alike_dN (x y : Nx) : W.alike (toPy (dN x)) (toPy (dN y)) = true := by
  have h1 := alike_dI x.1 y.1
  have h2 := alike_dI x.2.2 y.2.2
  show W.alike (.tuple [toPy (dI x.1), .int x.2.1, toPy (dI x.2.2)]) (.tuple [toPy (dI y.1), .int y.2.1, toPy (dI y.2.2)]) = true
  simp only [W.alike, W.alikeAll, h1, h2, Bool.and_true, Bool.and_self]
theorem plnL_of {ds : List D} (h : ∀ d ∈ ds, pln d = true) : plnL ds = true := by
  induction ds with
  | nil => rfl
  | cons x xs ih =>
    show (_ && _) = true
    rw [h x List.mem_cons_self, ih fun d hd => h d (List.mem_cons_of_mem _ hd)]; rfl
theorem srtb_dN (xs : List Nx) : Srtb (xs.map dN) := by
  refine ⟨plnL_of fun d hd => ?_, ?_, ?_, fun d hd => ?_⟩
  · obtain ⟨x, _, rfl⟩ := List.mem_map.mp hd; exact (cq_dN x).p
  · rw [List.map_map]; exact W.AllAlike.of fun a b => alike_dN a b
  · rw [List.map_map]; exact W.Sortable.tuples fun b => ⟨_, _, rfl⟩
  · obtain ⟨x, _, rfl⟩ := List.mem_map.mp hd; exact Nat.le_trans (cq_dN x).z (by decide)
end M

set_option linter.all false
set_option maxRecDepth 100000
/-! M3: whole numbers at any depth; falls by the law's own sands. -/
namespace M
open PySem DL
mutual
def whl : D → Bool
  | .int _ => true
  | .lst xs => whlL xs
  | .tup xs => whlL xs
  | _ => false
def whlL : List D → Bool
  | [] => true
  | x :: xs => whl x && whlL xs
end
mutual
def siz : D → Nat
  | .lst xs => 1 + sizL xs
  | .tup xs => 1 + sizL xs
  | _ => 1
def sizL : List D → Nat
  | [] => 0
  | x :: xs => siz x + sizL xs
end
theorem siz_pos (d : D) : 1 ≤ siz d := by cases d <;> unfold siz <;> omega
theorem sizL_app : ∀ (a b : List D), sizL (a ++ b) = sizL a + sizL b
  | [], b => by unfold sizL; rw [List.nil_append]; cases b <;> unfold sizL <;> omega
  | x :: a, b => by
    show siz x + sizL (a ++ b) = siz x + sizL a + sizL b
    rw [sizL_app a b]; omega
theorem whlL_app : ∀ (a b : List D), whlL (a ++ b) = (whlL a && whlL b)
  | [], b => rfl
  | x :: a, b => by
    show (whl x && whlL (a ++ b)) = (whl x && whlL a && whlL b)
    rw [whlL_app a b, Bool.and_assoc]
theorem sizL_len : ∀ (a : List D), a.length ≤ sizL a
  | [] => Nat.zero_le _
  | x :: a => by
    have := siz_pos x
    have := sizL_len a
    show a.length + 1 ≤ siz x + sizL a
    omega
theorem last_app {ds : List D} (h : ds ≠ []) : ∃ d, ds[ds.length - 1]? = some d ∧ ds = ds.dropLast ++ [d] := by
  refine ⟨ds.getLast h, ?_, (List.dropLast_concat_getLast h).symm⟩
  rw [← List.getLast?_eq_getElem?, List.getLast?_eq_some_getLast h]
theorem depthAll_le {n : Nat} : ∀ {xs : List D}, PyData.depthAll (toPyL xs) ≤ n → ∀ x ∈ xs, (toPy x).depth ≤ n
  | [], _, _, h => by cases h
  | y :: ys, h, x, hx => by
    unfold toPyL PyData.depthAll at h
    rcases List.mem_cons.mp hx with e | e
    · rw [e]; omega
    · exact depthAll_le (xs := ys) (by omega) x e
theorem canLayAll_at : ∀ {xs : List D}, PyData.canLayAll0 (toPyL xs) = true → ∀ x ∈ xs, (toPy x).canLay0 = true
  | [], _, _, h => by cases h
  | y :: ys, h, x, hx => by
    unfold toPyL PyData.canLayAll0 at h
    obtain ⟨h1, h2⟩ := Bool.and_eq_true_iff.mp h
    rcases List.mem_cons.mp hx with e | e
    · rw [e]; exact h1
    · exact canLayAll_at h2 x e
theorem cq_subL {n : Nat} {xs : List D} (h : Cq n (.lst xs)) : ∀ x ∈ xs, Cq n x := fun x hx => by
  obtain ⟨a, b, c⟩ := h
  refine ⟨pln_of_mem a x hx, canLayAll_at (by unfold toPy PyData.canLay0 at b; exact b) x hx, depthAll_le (xs := xs) (by unfold toPy PyData.depth at c; omega) x hx⟩
theorem cq_subT {n : Nat} {xs : List D} (h : Cq n (.tup xs)) : ∀ x ∈ xs, Cq n x := fun x hx => by
  obtain ⟨a, b, c⟩ := h
  refine ⟨pln_of_mem a x hx, canLayAll_at (by unfold toPy PyData.canLay0 at b; exact b) x hx, depthAll_le (xs := xs) (by unfold toPy PyData.depth at c; omega) x hx⟩
theorem whl_ints (ns : List Int) : whl (dI ns) = true := by
  show whlL (ns.map D.int) = true
  induction ns with
  | nil => rfl
  | cons n ns ih => exact ih
theorem siz_ints (ns : List Int) : siz (dI ns) = 1 + ns.length := by
  show 1 + sizL (ns.map D.int) = _
  congr 1
  induction ns with
  | nil => rfl
  | cons n ns ih =>
    show siz (.int n) + sizL (ns.map D.int) = _
    rw [ih]; unfold siz; rw [List.length_cons]; omega
end M

set_option linter.all false
set_option maxRecDepth 100000
/-! M4: falls by the law's own sands are the program's. -/
namespace M
open PySem DL
def lfallsFrom (gs : List Int) : Int → List Int → List (List Int) → Option (List (Int × List Int))
  | _, _, [] => some []
  | t, s, d :: ds => if lfar (lflip gs s d) = 99 then none else (lfallsFrom gs (t + lfar (lflip gs s d)) (lthere (lflip gs s d)) ds).map ((t + lfar (lflip gs s d), lthere (lflip gs s d)) :: ·)
def lfalls (gs : List Int) (plan : List (List Int)) : Option (List (Int × List Int)) := lfallsFrom gs 0 (zeros gs) plan
def optD : Option (List (Int × List Int)) → D
  | none => .non
  | some fl => .lst (fl.map dP)
/-- a stand as it may be -/
structure St (gs ss : List Int) : Prop where
  len : gs.length = ss.length
  ok : ∀ (i : Nat) (h : i < ss.length) (k : i < gs.length), 0 ≤ ss[i] ∧ ss[i] ≤ gs[i]
/-- a deed as it may be -/
structure De (n : Nat) (d : List Int) : Prop where
  ok : ∀ g ∈ d, 0 ≤ g ∧ g < (n : Int)
  up : d.Pairwise (· < ·)
theorem De.tail {n : Nat} {g : Int} {d : List Int} (h : De n (g :: d)) : De n d := ⟨fun x hx => h.ok x (List.mem_cons_of_mem _ hx), (List.pairwise_cons.mp h.up).2⟩
theorem turned_at (deed : List Int) : ∀ (i : Nat) (gs ss : List Int) (k : Nat) (h1 : k < gs.length) (h2 : k < ss.length), (turnedFrom deed i gs ss)[k]? = some (if ((i + k : Nat) : Int) ∈ deed then gs[k] - ss[k] else ss[k])
  | i, [], _, k, h1, _ => absurd h1 (Nat.not_lt_zero _)
  | i, _ :: _, [], k, _, h2 => absurd h2 (Nat.not_lt_zero _)
  | i, g :: gs, s :: ss, 0, _, _ => by unfold turnedFrom; rfl
  | i, g :: gs, s :: ss, k + 1, h1, h2 => by
    unfold turnedFrom
    rw [List.getElem?_cons_succ, turned_at deed (i + 1) gs ss k (Nat.lt_of_succ_lt_succ h1) (Nat.lt_of_succ_lt_succ h2)]
    rw [show i + 1 + k = i + (k + 1) by omega]; rfl
theorem turnedFrom_len (deed : List Int) : ∀ (i : Nat) (gs ss : List Int), gs.length = ss.length → (turnedFrom deed i gs ss).length = ss.length
  | _, [], [], _ => by unfold turnedFrom; rfl
  | _, [], _ :: _, h => by simp at h
  | _, _ :: _, [], h => by simp at h
  | i, g :: gs, s :: ss, h => by
    unfold turnedFrom
    rw [List.length_cons, List.length_cons, turnedFrom_len deed (i + 1) gs ss (by simpa using h)]
theorem lflip_len (gs : List Int) : ∀ (deed ss : List Int), (lflip gs ss deed).length = ss.length
  | [], _ => rfl
  | g :: deed, ss => by
    show (lflip gs (lflip1 gs ss g) deed).length = _
    rw [lflip_len gs deed]; unfold lflip1; rw [List.length_set]
theorem lflip_at (gs : List Int) : ∀ (deed ss : List Int) (k : Nat) (h1 : k < gs.length) (h2 : k < ss.length), (∀ g ∈ deed, 0 ≤ g) → deed.Pairwise (· < ·) → (lflip gs ss deed)[k]? = some (if (k : Int) ∈ deed then gs[k] - ss[k] else ss[k])
  | [], ss, k, h1, h2, _, _ => by
    show ss[k]? = _
    rw [List.getElem?_eq_getElem h2, if_neg (by simp)]
  | g :: deed, ss, k, h1, h2, hn, hp => by
    show (lflip gs (lflip1 gs ss g) deed)[k]? = _
    have hl : (lflip1 gs ss g).length = ss.length := by unfold lflip1; rw [List.length_set]
    have g0 := hn g List.mem_cons_self
    rw [lflip_at gs deed (lflip1 gs ss g) k h1 (by rw [hl]; exact h2) (fun x hx => hn x (List.mem_cons_of_mem _ hx)) (List.pairwise_cons.mp hp).2]
    have hv : (lflip1 gs ss g)[k]'(by rw [hl]; exact h2) = if (k : Int) = g then gs[k] - ss[k] else ss[k] := by
      unfold lflip1
      rw [List.getElem_set]
      by_cases hk : g.toNat = k
      · have e : (k : Int) = g := by omega
        rw [if_pos hk, if_pos e, hk, List.getD_eq_getElem?_getD, List.getD_eq_getElem?_getD, List.getElem?_eq_getElem h1, List.getElem?_eq_getElem h2]; rfl
      · rw [if_neg hk, if_neg (by omega)]
    rw [hv]
    congr 1
    by_cases hk : (k : Int) = g
    · have hnot : (k : Int) ∉ deed := fun hm => by
        have := (List.pairwise_cons.mp hp).1 _ hm
        omega
      rw [if_neg hnot, if_pos hk, if_pos (by rw [hk]; exact List.mem_cons_self)]
    · rw [if_neg hk]
      by_cases hm : (k : Int) ∈ deed
      · rw [if_pos hm, if_pos (List.mem_cons_of_mem _ hm)]
      · rw [if_neg hm, if_neg (fun z => (List.mem_cons.mp z).elim hk hm)]
theorem flip_turned {gs ss deed : List Int} (h : gs.length = ss.length) (hd : De gs.length deed) : lflip gs ss deed = turned gs ss deed := by
  apply List.ext_getElem?
  intro k
  by_cases hk : k < ss.length
  · rw [lflip_at gs deed ss k (by omega) hk (fun g hg => (hd.ok g hg).1) hd.up]
    unfold turned
    rw [turned_at deed 0 gs ss k (by omega) hk, Nat.zero_add]
  · rw [List.getElem?_eq_none (by rw [lflip_len]; omega), List.getElem?_eq_none (by unfold turned; rw [turnedFrom_len _ _ _ _ h]; omega)]
theorem St.turn {gs ss deed : List Int} (h : St gs ss) : St gs (turned gs ss deed) := by
  have hl : (turned gs ss deed).length = ss.length := turnedFrom_len _ _ _ _ h.len
  refine ⟨by rw [hl]; exact h.len, fun i hi hk => ?_⟩
  have e := turned_at deed 0 gs ss i hk (by omega)
  have e' : (turned gs ss deed)[i] = if ((0 + i : Nat) : Int) ∈ deed then gs[i] - ss[i] else ss[i] := by
    have q : (turned gs ss deed)[i]? = some (turned gs ss deed)[i] := List.getElem?_eq_getElem hi
    unfold turned at q ⊢
    rw [e] at q
    exact (Option.some.inj q).symm
  rw [e']
  have := h.ok i (by omega) hk
  split <;> omega
theorem St.mem {gs ss : List Int} (hg : ∀ g ∈ gs, 1 ≤ g ∧ g ≤ 12) (h : St gs ss) : ∀ x ∈ ss, 0 ≤ x ∧ x ≤ 12 := fun x hx => by
  obtain ⟨i, hi, rfl⟩ := List.mem_iff_getElem.mp hx
  have := h.ok i hi (by rw [h.len]; exact hi)
  have hk : i < gs.length := by rw [h.len]; exact hi
  have := hg gs[i] (List.getElem_mem hk)
  omega
/-- both ways to the next fall -/
theorem far_both {ss : List Int} (h : ∀ x ∈ ss, 0 ≤ x ∧ x ≤ 12) : (far ss = 0 ∧ lfar ss = 99) ∨ (far ss = lfar ss ∧ 1 ≤ far ss ∧ far ss ≤ 12 ∧ there ss = lthere ss) := by
  unfold far lfar there lthere
  cases hf : ss.filter (fun x => decide (0 < x)) with
  | nil => exact .inl ⟨by rw [if_pos rfl], rfl⟩
  | cons y ys =>
    refine .inr ?_
    have hm : ∀ x ∈ y :: ys, 1 ≤ x ∧ x ≤ 12 := fun x hx => by
      rw [← hf] at hx
      obtain ⟨a, b⟩ := List.mem_filter.mp hx
      have := h x a
      have := of_decide_eq_true b
      omega
    obtain ⟨m1, m2⟩ := minI_spec (ns := y :: ys) (by simp)
    have b := hm _ m1
    have e : minI (y :: ys ++ [99]) = minI (y :: ys) := by
      refine (minI_eq (List.mem_append_left _ m1) fun z hz => ?_).symm
      rcases List.mem_append.mp hz with q | q
      · exact m2 z q
      · rw [List.mem_singleton.mp q]; omega
    rw [if_neg (by simp), if_neg (by simp), e]
    refine ⟨rfl, b.1, b.2, ?_⟩
    unfold far lfar
    rw [hf, if_neg (by simp), e]
theorem St.fall {gs ss : List Int} (h : St gs ss) : St gs (there ss) := by
  unfold there
  split
  · exact h
  · rename_i hf
    refine ⟨by rw [List.length_map]; exact h.len, fun i hi hk => ?_⟩
    rw [List.length_map] at hi
    rw [List.getElem_map]
    have := h.ok i hi hk
    have hfar : 0 ≤ far ss := by
      unfold far
      rw [if_neg hf]
      obtain ⟨m1, _⟩ := minI_spec hf
      have := of_decide_eq_true (List.mem_filter.mp m1).2
      omega
    omega
theorem zeros_st {gs : List Int} (hg : ∀ g ∈ gs, 1 ≤ g ∧ g ≤ 12) : St gs (zeros gs) := by
  refine ⟨by unfold zeros; simp, fun i hi hk => ?_⟩
  have e : (zeros gs)[i] = 0 := by simp [zeros]
  rw [e]
  have := hg gs[i] (List.getElem_mem hk)
  omega
theorem falls_both {gs : List Int} (hg : ∀ g ∈ gs, 1 ≤ g ∧ g ≤ 12) : ∀ (ds : List (List Int)) (t : Int) (s : List Int), St gs s → (∀ d ∈ ds, De gs.length d) →
    lfallsFrom gs t s ds = if (fallsFrom gs t s ds).length = ds.length then some (fallsFrom gs t s ds) else none
  | [], t, s, _, _ => by unfold lfallsFrom fallsFrom; rfl
  | d :: ds, t, s, hs, hd => by
    have hd0 := hd d List.mem_cons_self
    have e := flip_turned hs.len hd0
    have ht := hs.turn (deed := d)
    rcases far_both (ht.mem hg) with ⟨h1, h2⟩ | ⟨h1, h2, h3, h4⟩
    · have hL : lfallsFrom gs t s (d :: ds) = none := by unfold lfallsFrom; rw [e, if_pos h2]
      have hF : fallsFrom gs t s (d :: ds) = [] := by unfold fallsFrom; rw [if_pos h1]
      rw [hL, hF, if_neg (by simp)]
    · have hL : lfallsFrom gs t s (d :: ds) = (lfallsFrom gs (t + far (turned gs s d)) (there (turned gs s d)) ds).map ((t + far (turned gs s d), there (turned gs s d)) :: ·) := by
        conv => lhs; unfold lfallsFrom
        rw [e, if_neg (by omega), ← h4, ← h1]
      have hF : fallsFrom gs t s (d :: ds) = (t + far (turned gs s d), there (turned gs s d)) :: fallsFrom gs (t + far (turned gs s d)) (there (turned gs s d)) ds := by
        conv => lhs; unfold fallsFrom
        rw [if_neg (by omega)]
      rw [hL, hF, falls_both hg ds _ _ ht.fall fun x hx => hd x (List.mem_cons_of_mem _ hx), List.length_cons, List.length_cons]
      by_cases hl : (fallsFrom gs (t + far (turned gs s d)) (there (turned gs s d)) ds).length = ds.length
      · rw [if_pos hl, if_pos (by rw [hl])]; rfl
      · rw [if_neg hl, if_neg (by omega)]; rfl
theorem rising_of : ∀ {ns : List Int}, ns.Pairwise (· < ·) → rising (ns.map .int) = true
  | [], _ => rfl
  | [x], _ => rfl
  | x :: y :: r, h => by
    obtain ⟨h1, h2⟩ := List.pairwise_cons.mp h
    show (decide (x < y) && rising (.int y :: r.map .int)) = true
    rw [decide_eq_true (h1 y List.mem_cons_self), Bool.true_and]
    exact rising_of h2
theorem De.is {n : Nat} {d : List Int} (h : De n d) : isDeed n (dI d) = true := by
  show (_ && _) = true
  rw [rising_of h.up, Bool.and_true, List.all_map]
  refine List.all_eq_true.mpr fun g hg => ?_
  have := h.ok g hg
  show (decide ((0 : Int) ≤ g) && decide (g ≤ (n : Int) - 1)) = true
  rw [decide_eq_true this.1, decide_eq_true (by omega)]; rfl
theorem deedOf_de (n number : Nat) : De n (deedOf n number) := by
  refine ⟨fun g hg => ?_, ?_⟩
  · obtain ⟨k, hk, rfl⟩ := List.mem_map.mp hg
    have := List.mem_range.mp (List.mem_filter.mp hk).1
    omega
  · unfold deedOf
    refine List.pairwise_map.mpr (List.Pairwise.imp (fun {a b} h => ?_) (List.Pairwise.filter _ List.pairwise_lt_range))
    exact Int.ofNat_lt.mpr h
theorem glasses_is {gs : List Int} (h : Gl gs) : isGlasses 3 (dI gs) = true := by
  show (_ && _ && _) = true
  rw [List.length_map]
  have h1 := h.lo
  have h2 := h.hi
  rw [decide_eq_true (by omega), decide_eq_true (by omega), List.all_map]
  refine List.all_eq_true.mpr fun g hg => ?_
  have := h.all g hg
  show (decide ((1 : Int) ≤ g) && decide (g ≤ 12)) = true
  rw [decide_eq_true this.1, decide_eq_true this.2]; rfl
theorem plan_is {n : Nat} {plan : List (List Int)} (h : ∀ d ∈ plan, De n d) (hl : plan.length ≤ 60) : isPlan n (dL plan) = true := by
  show (_ && _) = true
  rw [List.length_map, decide_eq_true (by omega), Bool.true_and, List.all_map]
  exact List.all_eq_true.mpr fun d hd => (h d hd).is
theorem lnx_spec {gs ss : List Int} {x : Nx} (h : x ∈ lnx gs ss) : ∃ number, x.1 = deedOf gs.length number ∧ x.2.1 = lfar (lflip gs ss x.1) ∧ x.2.2 = lthere (lflip gs ss x.1) ∧ x.2.1 < 99 := by
  unfold lnx at h
  obtain ⟨h1, h2⟩ := List.mem_filter.mp h
  obtain ⟨k, _, rfl⟩ := List.mem_map.mp h1
  exact ⟨k, rfl, rfl, rfl, of_decide_eq_true h2⟩
/-- what a next one is, by the program's words -/
theorem next_spec {gs ss : List Int} (hg : ∀ g ∈ gs, 1 ≤ g ∧ g ≤ 12) (hs : St gs ss) {x : Nx} (h : x ∈ lnexts gs ss) : De gs.length x.1 ∧ x.2.1 = far (turned gs ss x.1) ∧ x.2.2 = there (turned gs ss x.1) ∧ 1 ≤ x.2.1 ∧ x.2.1 ≤ 12 ∧ St gs x.2.2 := by
  obtain ⟨k, e1, e2, e3, e4⟩ := lnx_spec (lnexts_mem.mp h)
  have hd : De gs.length x.1 := by rw [e1]; exact deedOf_de _ _
  rw [flip_turned hs.len hd] at e2 e3
  have ht := hs.turn (deed := x.1)
  rcases far_both (ht.mem hg) with ⟨h1, h2⟩ | ⟨h1, h2, h3, h4⟩
  · omega
  · rw [e2, e3, ← h1, ← h4]
    exact ⟨hd, rfl, rfl, h2, h3, ht.fall⟩
theorem lfar_pos {ss : List Int} {x : Int} (hx : x ∈ ss) (h : 0 < x) (h2 : x < 99) : lfar ss < 99 := by
  unfold lfar
  have hm : x ∈ ss.filter (fun x => decide (0 < x)) ++ [99] := List.mem_append_left _ (List.mem_filter.mpr ⟨hx, decide_eq_true h⟩)
  have := (minI_spec (ns := ss.filter (fun x => decide (0 < x)) ++ [99]) (by simp)).2 x hm
  omega
theorem lnexts_ne {gs ss : List Int} (hg : Gl gs) (hs : St gs ss) : lnexts gs ss ≠ [] := by
  intro hn
  have none_ : ∀ k, k < 2 ^ gs.length → ¬ lfar (lflip gs ss (deedOf gs.length k)) < 99 := fun k hk hlt => by
    have : nx1 gs ss k ∈ lnexts gs ss := lnexts_mem.mpr (List.mem_filter.mpr ⟨List.mem_map.mpr ⟨k, List.mem_range.mpr hk, rfl⟩, decide_eq_true hlt⟩)
    rw [hn] at this; cases this
  have hlo := hg.lo
  have hp1 : 2 ≤ 2 ^ gs.length := by
    have := Nat.pow_le_pow_right (n := 2) (by decide) hlo
    simpa using this
  have h1 : 1 < 2 ^ gs.length := by omega
  have hss : 0 < ss.length := by have := hs.len; omega
  by_cases hz : ∃ x ∈ ss, 0 < x
  · obtain ⟨x, hx, hx0⟩ := hz
    have := hs.mem hg.all x hx
    refine none_ 0 (by omega) ?_
    have e : deedOf gs.length 0 = [] := by
      unfold deedOf
      rw [List.filter_eq_nil_iff.mpr fun k _ => ?_]; rfl
      unfold bitIn
      rw [show ((0 : Nat) : Int) / 2 ^ k = 0 by simp]
      decide
    rw [e]
    exact lfar_pos (show x ∈ lflip gs ss [] from hx) hx0 (by omega)
  · have h0 : ss[0] = 0 := by
      have a := (hs.ok 0 hss (by omega)).1
      by_cases hp : 0 < ss[0]
      · exact absurd ⟨_, List.getElem_mem hss, hp⟩ hz
      · omega
    have hd := deedOf_de gs.length 1
    have hmem : ((0 : Nat) : Int) ∈ deedOf gs.length 1 := by
      unfold deedOf
      refine List.mem_map.mpr ⟨0, List.mem_filter.mpr ⟨List.mem_range.mpr (by omega), ?_⟩, rfl⟩
      decide
    have e := lflip_at gs (deedOf gs.length 1) ss 0 (by omega) hss (fun g hg => (hd.ok g hg).1) hd.up
    rw [if_pos hmem] at e
    have g0 := hg.all gs[0] (List.getElem_mem _)
    exact none_ 1 h1 (lfar_pos (List.mem_of_getElem? e) (by omega) (by omega))
/-- a rising deed is short -/
theorem De.short {n : Nat} : ∀ {d : List Int} (k : Int), (∀ g ∈ d, k ≤ g ∧ g < (n : Int)) → d.Pairwise (· < ·) → (d.length : Int) ≤ max 0 ((n : Int) - k)
  | [], k, _, _ => by simp; omega
  | g :: d, k, h, hp => by
    have hg := h g List.mem_cons_self
    have ih := De.short (d := d) (k + 1) (fun x hx => ⟨by have := (List.pairwise_cons.mp hp).1 x hx; omega, (h x (List.mem_cons_of_mem _ hx)).2⟩) (List.pairwise_cons.mp hp).2
    rw [List.length_cons]
    omega
theorem De.len {n : Nat} {d : List Int} (h : De n d) : d.length ≤ n := by
  have := De.short 0 h.ok h.up
  omega
end M

set_option linter.all false
set_option maxRecDepth 100000
/-! M5: all deeds, what follows a stand. -/
namespace M
open PySem DL
/-- all deeds of so many glasses, unsorted -/
def deedsU : Nat → List (List Int)
  | 0 => [[]]
  | n + 1 => deedsU n ++ (deedsU n).map (· ++ [(n : Int)])
def deeds (n : Nat) : List (List Int) := (deedsU n).mergeSort fun a b => leD (dI a) (dI b)
theorem deeds_mem {n : Nat} {d : List Int} : d ∈ deeds n ↔ d ∈ deedsU n := List.mem_mergeSort
theorem deeds_len (n : Nat) : (deeds n).length = 2 ^ n := by
  unfold deeds
  rw [List.length_mergeSort]
  induction n with
  | zero => rfl
  | succ n ih => unfold deedsU; rw [List.length_append, List.length_map, ih, Nat.pow_succ]; omega
theorem deedsU_de : ∀ {n : Nat} {d : List Int}, d ∈ deedsU n → De n d
  | 0, d, h => by
    unfold deedsU at h
    rw [List.mem_singleton.mp h]
    exact ⟨fun _ z => by simp at z, List.Pairwise.nil⟩
  | n + 1, d, h => by
    unfold deedsU at h
    rcases List.mem_append.mp h with z | z
    · have q := deedsU_de z
      exact ⟨fun g hg => by have := q.ok g hg; omega, q.up⟩
    · obtain ⟨d', hd', rfl⟩ := List.mem_map.mp z
      have q := deedsU_de hd'
      refine ⟨fun g hg => ?_, ?_⟩
      · rcases List.mem_append.mp hg with w | w
        · have := q.ok g w; omega
        · rw [List.mem_singleton.mp w]; omega
      · refine List.pairwise_append.mpr ⟨q.up, List.pairwise_singleton _ _, fun a ha b hb => ?_⟩
        rw [List.mem_singleton.mp hb]
        have := q.ok a ha; omega
/-- the program's next ones -/
def nxt (gs ss deed : List Int) : Nx := (deed, far (turned gs ss deed), there (turned gs ss deed))
def nexts (gs ss : List Int) : List Nx := ((deeds gs.length).map (nxt gs ss)).filter fun x => decide (0 < x.2.1)
theorem toPy_dI (ns : List Int) : toPy (dI ns) = .list (ns.map .int) := by unfold toPy; rw [toPyL_ints]
theorem srtb_dI (xs : List (List Int)) : Srtb (xs.map dI) := by
  refine ⟨plnL_of fun d hd => ?_, ?_, ?_, fun d hd => ?_⟩
  · obtain ⟨x, _, rfl⟩ := List.mem_map.mp hd; exact (cq_dI x (n := 0)).p
  · rw [List.map_map]; exact W.AllAlike.of fun a b => alike_dI a b
  · rw [List.map_map]
    refine W.Sortable.others fun b => ?_
    show toPy (dI b) ≠ _ ∧ _
    rw [toPy_dI]
    exact ⟨by simp, fun _ z => by rw [show (toPy ∘ dI) b = toPy (dI b) from rfl, toPy_dI] at z; cases z⟩
  · obtain ⟨x, _, rfl⟩ := List.mem_map.mp hd; exact Nat.le_trans (cq_dI x (n := 0)).z (by decide)
theorem sort_dI (xs : List (List Int)) : sortD (xs.map dI) = (xs.mergeSort fun a b => leD (dI a) (dI b)).map dI := by
  unfold sortD
  exact (List.map_mergeSort (f := dI) fun x _ y _ => rfl).symm
/-- the same next ones, whatever the turn -/
theorem deeds_both {n : Nat} (h : n ≤ 3) : (∀ d ∈ deedsU n, ∃ k, k < 2 ^ n ∧ deedOf n k = d) ∧ ∀ k, k < 2 ^ n → deedOf n k ∈ deedsU n := by
  have h1 : ∀ n, n < 4 → (∀ d ∈ deedsU n, ∃ k, k < 2 ^ n ∧ deedOf n k = d) ∧ ∀ k, k < 2 ^ n → deedOf n k ∈ deedsU n := by decide +kernel
  exact h1 n (by omega)
theorem next_both {gs ss : List Int} (hg : Gl gs) (hs : St gs ss) (x : Nx) : x ∈ nexts gs ss ↔ x ∈ lnexts gs ss := by
  obtain ⟨b1, b2⟩ := deeds_both hg.hi
  have one : ∀ k, nx1 gs ss k = nxt gs ss (deedOf gs.length k) ∨ (lfar (lflip gs ss (deedOf gs.length k)) = 99 ∧ far (turned gs ss (deedOf gs.length k)) = 0) := fun k => by
    have e := flip_turned hs.len (deedOf_de gs.length k)
    unfold nx1 nxt
    rw [e]
    rcases far_both (hs.turn.mem hg.all) with ⟨h1, h2⟩ | ⟨h1, h2, h3, h4⟩
    · exact .inr ⟨h2, h1⟩
    · exact .inl (by rw [← h1, ← h4])
  have pos : ∀ d, (nxt gs ss d).2.1 = far (turned gs ss d) := fun _ => rfl
  constructor
  · intro hx
    obtain ⟨h1, h2⟩ := List.mem_filter.mp hx
    obtain ⟨d, hd, rfl⟩ := List.mem_map.mp h1
    have h2 := of_decide_eq_true h2
    obtain ⟨k, hk, rfl⟩ := b1 d (deeds_mem.mp hd)
    refine lnexts_mem.mpr (List.mem_filter.mpr ⟨List.mem_map.mpr ⟨k, List.mem_range.mpr hk, ?_⟩, ?_⟩)
    · rcases one k with h | h
      · exact h
      · rw [pos, h.2] at h2; omega
    · rw [pos] at h2
      rcases far_both (hs.turn (deed := deedOf gs.length k).mem hg.all) with ⟨q1, q2⟩ | ⟨q1, q2, q3, q4⟩
      · omega
      · rw [pos]; exact decide_eq_true (by omega)
  · intro hx
    obtain ⟨h1, h2⟩ := List.mem_filter.mp (lnexts_mem.mp hx)
    obtain ⟨k, hk, rfl⟩ := List.mem_map.mp h1
    have h2 := of_decide_eq_true h2
    rcases one k with h | h
    · rw [h] at h2 ⊢
      refine List.mem_filter.mpr ⟨List.mem_map.mpr ⟨_, deeds_mem.mpr (b2 k (List.mem_range.mp hk)), rfl⟩, ?_⟩
      rw [pos] at h2 ⊢
      rcases far_both (hs.turn (deed := deedOf gs.length k).mem hg.all) with ⟨q1, q2⟩ | ⟨q1, q2, q3, q4⟩
      · have : (nx1 gs ss k).2.1 = lfar (lflip gs ss (deedOf gs.length k)) := rfl
        rw [h, pos, flip_turned hs.len (deedOf_de gs.length k), q2, q1] at this
        omega
      · exact decide_eq_true (by omega)
    · have : (nx1 gs ss k).2.1 = lfar (lflip gs ss (deedOf gs.length k)) := rfl
      rw [this, h.1] at h2; omega
theorem nexts_len (gs ss : List Int) : (nexts gs ss).length ≤ 2 ^ gs.length := by
  unfold nexts
  refine Nat.le_trans (List.length_filter_le _ _) ?_
  rw [List.length_map, deeds_len]; exact Nat.le_refl _
theorem nexts_spec {gs ss : List Int} (hg : ∀ g ∈ gs, 1 ≤ g ∧ g ≤ 12) (hs : St gs ss) {x : Nx} (h : x ∈ nexts gs ss) : De gs.length x.1 ∧ x.2.1 = far (turned gs ss x.1) ∧ x.2.2 = there (turned gs ss x.1) ∧ 1 ≤ x.2.1 ∧ x.2.1 ≤ 12 ∧ St gs x.2.2 := by
  obtain ⟨h1, h2⟩ := List.mem_filter.mp h
  obtain ⟨d, hd, rfl⟩ := List.mem_map.mp h1
  have h2 : 0 < far (turned gs ss d) := of_decide_eq_true h2
  have ht := hs.turn (deed := d)
  refine ⟨deedsU_de (deeds_mem.mp hd), rfl, rfl, h2, ?_, ht.fall⟩
  rcases far_both (ht.mem hg) with ⟨q1, q2⟩ | ⟨q1, q2, q3, q4⟩
  · omega
  · exact q3
end M

set_option Elab.async false
set_option linter.all false
set_option maxRecDepth 100000
set_option maxHeartbeats 4000000
namespace R
open PySem L2 DL M
section
variable {P : Program} {w : World} {K : PySem.W.Frag} {mg : Str → Option Value} {base : Heap}
theorem deedsU_len (n : Nat) : (deedsU n).length = 2 ^ n := by
  induction n with
  | zero => rfl
  | succ n ih => unfold deedsU; rw [List.length_append, List.length_map, ih, Nat.pow_succ]; omega
abbrev sp_deeds_of : Sp := Pur (fun gs : List D => [.lst gs]) (fun gs => gs.length ≤ 10) fun gs => dL (deeds gs.length)
theorem ok_deeds_of (T : Txt K mg) : FnOk P w K mg base CX0 1 T.d_deeds_of.f T.d_deeds_of.fd ["glasses"] sp_deeds_of := by
  refine Fun.pur T.d_deeds_of.F sc_deeds_of (fun _ => rfl) (by decide) fun cdv A outer s H σ E Q gs hr hp h q => ?_
  have nd := sc_deeds_of.nd
  refine w_own 1 (ds := [dI []]) (d_lst (a_cons (d_lst a_nil (by decide)) a_nil) one_sz) h (fun σ1 H1 e1 h1 => ?_) nd
  refine w_for (m := 3) (.nm 2) (i_rangeN T.z_range (d_len T.z_len (d_x 0 rfl)) (by omega)) (by decide) (p_nm 2 nd) PassesOwn.never rfl h1 (fun k => [.dat 1 (.lst gs), .own 2 ((deedsU k).map dI), .any, .any]) (fun Z' H' h => h)
    (fun k d B σ2 H2 hd h2 => ?_) fun σ2 H2 h2 => ?_
  · obtain ⟨hk, rfl⟩ := rng_get hd
    rw [Int.zero_add]
    refine ⟨_, rfl, fun σ3 H3 h3 => ?_⟩
    dsimp only [List.set] at h3
    have hp2 : 2 ^ k ≤ 1024 := (Nat.pow_le_pow_right (by decide : 0 < 2) (show k ≤ 10 by omega) : 2 ^ k ≤ 2 ^ 10)
    have hl : (deedsU k).length ≤ 1024 := by rw [deedsU_len]; exact hp2
    refine w_ext 1 rfl (es := ((deedsU k).map (· ++ [(k : Int)])).map dI) (d_eq (d_lc (me := 2) (enc := dI) (ys := deedsU k) (tst := fun _ => true) (f := fun d => dI (d ++ [(k : Int)])) [("deed", 3)] (.nm 3) (i_list (n_d (n_listL T.z_list (l_x 1 rfl)))) (fun s H' C cl fp => p_nm 3 nd)
      (fun i y Z' hy hz => ⟨_, rfl, fun s H' C cl fp => pts_nilD, fun _ s H' C cl fp => d_w (d_eq (d_catS (xs := y.map .int) (ys := [.int (k : Int)]) (d_x 3 rfl) (d_lst (a_cons (d_x 2 rfl) a_nil) one_sz) (scL_ints y) rfl (by
        have := De.len (deedsU_de (List.mem_of_getElem? hy))
        rw [List.length_map]; exact sz_of (by simp only [List.length_cons, List.length_nil]; omega))) (by show D.lst (y.map D.int ++ [D.int (k : Int)]) = D.lst ((y ++ [(k : Int)]).map D.int); rw [List.map_append]; rfl)) (by decide)⟩) (by omega) nd (bk_deeds_of (by decide +kernel))) (by rw [lc_all, List.map_map]; rfl)) h3 (fun H4 h4 => wp_nil ?_) (by rw [List.length_map, List.length_map, List.length_map]; omega)
    have h5 := h4.drop 2
    dsimp only [List.set] at h5
    unfold deedsU
    rw [List.map_append]
    exact h5
  · rw [rng_len] at h2
    refine w_ret (n_d (n_sortedL hr.units T.z_sorted (l_x 1 rfl) (srtb_dI _))) h2 fun v H3 e3 r => q v H3 (h2.h0x.trans e3) ?_
    rw [sort_dI] at r
    exact ret_new (by decide) h2.h0x r
abbrev sp_nexts : Sp := Pur (fun a : List Int × List Int => [dI a.1, dI a.2]) (fun a => a.1.length = a.2.length ∧ a.1.length ≤ 10) fun a => .lst ((nexts a.1 a.2).map dN)
theorem ok_nexts (T : Txt K mg) : FnOk P w K mg base CX0 2 T.d_nexts.f T.d_nexts.fd ["glasses", "stand"] sp_nexts := by
  refine Fun.pur T.d_nexts.F sc_nexts (fun _ => rfl) (by decide) fun cdv A outer s H σ E Q a hr hp h q => ?_
  obtain ⟨gs, ss⟩ := a
  obtain ⟨hl, h10⟩ := hp
  dsimp only at hl h10
  have nd := sc_nexts.nd
  have hdl : (deeds gs.length).length ≤ 1024 := by rw [deeds_len]; exact Nat.pow_le_pow_right (by decide : 0 < 2) h10
  refine w_own 2 (d_lst a_nil (by decide)) h (fun σ1 H1 e1 h1 => ?_) nd
  refine w_for (m := 3) (.nm 3) (i_list (xs := (deeds gs.length).map dI) (d_eq (d := dL (deeds (gs.map D.int).length)) (d_fn T.d_deeds_of (ok_deeds_of T) hr pass0 (Pur.gives (α := List D) (gs.map D.int) (show (gs.map D.int).length ≤ 10 by rw [List.length_map]; exact h10)) (a_cons (d_x 0 rfl) a_nil)) (by rw [List.length_map]))) (by decide) (p_nm 3 nd) PassesOwn.never rfl h1
    (fun k => [.dat 1 (dI gs), .dat 1 (dI ss), .own 2 (((((deeds gs.length).take k).map (nxt gs ss)).filter fun x => decide (0 < x.2.1)).map dN), .any, .any, .any]) (fun Z' H' h => h) (fun k d B σ2 H2 hd h2 => ?_) fun σ2 H2 h2 => ?_
  · obtain ⟨hk, rfl⟩ := dL_get hd
    refine ⟨_, rfl, fun σ3 H3 h3 => ?_⟩
    dsimp only [List.set] at h3
    have tk : (deeds gs.length).take (k + 1) = (deeds gs.length).take k ++ [(deeds gs.length)[k]] := List.take_succ_eq_append_getElem hk
    have hfl : (((((deeds gs.length).take k).map (nxt gs ss)).filter fun x => decide (0 < x.2.1)).map dN).length ≤ 1024 := by
      rw [List.length_map]
      refine Nat.le_trans (List.length_filter_le _ _) ?_
      rw [List.length_map, List.length_take]; omega
    generalize hdd : (deeds gs.length)[k] = deed at h3 tk
    have er : ((((deeds gs.length).take (k + 1)).map (nxt gs ss)).filter fun x => decide (0 < x.2.1)) = ((((deeds gs.length).take k).map (nxt gs ss)).filter fun x => decide (0 < x.2.1)) ++ (if 0 < far (turned gs ss deed) then [nxt gs ss deed] else []) := by
      rw [tk, List.map_append, List.filter_append]
      congr 1
      by_cases hz : 0 < far (turned gs ss deed)
      · rw [if_pos hz]; exact List.filter_cons_of_pos (p := fun x : Nx => decide (0 < x.2.1)) (a := nxt gs ss deed) (l := []) (decide_eq_true hz)
      · rw [if_neg hz]; exact List.filter_cons_of_neg (p := fun x : Nx => decide (0 < x.2.1)) (a := nxt gs ss deed) (l := []) (fun z => hz (of_decide_eq_true z))
    have htl : (turned gs ss deed).length ≤ 1000000 := by unfold turned; rw [turnedFrom_len _ _ _ _ hl]; omega
    refine w_unpack (.tp [.nm 4, .nm 5]) (p_tp (q_cons (p_nm 4 nd) (q_cons (p_nm 5 nd) q_nil))) (d_fn T.d_fall_of (ok_fall_of T) hr pass0 (Pur.gives (turned gs ss deed) htl)
      (a_cons (d_fn T.d_turned (ok_turned T) hr pass0 (Pur.gives (gs, ss, deed) ⟨hl, by dsimp only; omega⟩) (a_cons (d_x 0 rfl) (a_cons (d_x 1 rfl) (a_cons (d_x 3 rfl) a_nil)))) a_nil)) rfl h3 fun σ4 H4 e4 h4 => ?_
    dsimp only [List.set] at h4
    refine w_if (t_gt (d_x 4 rfl) d_i) h4 (fun hb H5 e5 h5 => ?_) fun hb H5 e5 h5 => ?_
    · have hb' := of_decide_eq_true hb
      rw [if_pos hb'] at er
      refine w_app 2 rfl (d_tup (a_cons (d_x 3 rfl) (a_cons (d_x 4 rfl) (a_cons (d_x 5 rfl) a_nil))) (show 3 ≤ sizeLine by decide)) h5 (fun H6 h6 => w_end ?_) (by omega)
      refine wp_nil ?_
      have h7 := h6.drops [3, 4, 5]
      dsimp only [anyAt, List.foldl, List.set] at h7
      rw [er, List.map_append]
      exact h7
    · have hb' := of_decide_eq_false hb
      rw [if_neg hb', List.append_nil] at er
      refine w_end ?_
      refine wp_nil ?_
      have h7 := h5.drops [3, 4, 5]
      dsimp only [anyAt, List.foldl, List.set] at h7
      rw [er]
      exact h7
  · rw [List.length_map, List.take_length] at h2
    exact w_retO 2 rfl h2 rfl fun v r => q v H2 h2.h0x r
/-- measures -/
def meas (gs : List Int) (plan : List (List Int)) (ticks : Int) : Bool := !decide (plan = []) && (decide ((falls gs plan).length = plan.length) && decide ((falls gs plan).getLast?.map (·.1) = some ticks))
end
end R

set_option linter.all false
set_option maxRecDepth 100000
/-! M6: tables of stands, tick by tick. -/
namespace M
open PySem DL
abbrev dE (deed : List Int) (k : Nat) (st : List Int) : D := .tup [dI deed, .int (k : Int), dT st]
def keysOf (row : Row) : List (List Int) := row.map (·.1)
def rw_ (rows : List Row) (j : Nat) : Row := rows.getD j []
theorem rowGet_none {row : Row} {ns : List Int} : rowGet row ns = none ↔ ns ∉ keysOf row := by
  unfold rowGet keysOf
  rw [Option.map_eq_none_iff, List.find?_eq_none]
  constructor
  · intro h z
    obtain ⟨p, hp, rfl⟩ := List.mem_map.mp z
    exact h p hp (decide_eq_true rfl)
  · intro h p hp z
    exact h (List.mem_map.mpr ⟨p, hp, of_decide_eq_true z⟩)
theorem rowGet_some {row : Row} {ns : List Int} {d : D} (h : rowGet row ns = some d) : (ns, d) ∈ row := by
  unfold rowGet at h
  obtain ⟨p, hp, rfl⟩ := Option.map_eq_some_iff.mp h
  have h1 := List.mem_of_find?_eq_some hp
  have h2 : p.1 = ns := of_decide_eq_true (List.find?_some (p := fun q : List Int × D => decide (q.1 = ns)) hp)
  rw [← h2]; exact h1
theorem rowGet_of {row : Row} {ns : List Int} (h : ns ∈ keysOf row) : ∃ d, rowGet row ns = some d := by
  cases q : rowGet row ns with
  | none => exact absurd h (rowGet_none.mp q)
  | some d => exact ⟨d, rfl⟩
theorem rw_at {rows : List Row} {j : Nat} {row : Row} (h : rows[j]? = some row) : rw_ rows j = row := by
  unfold rw_; rw [List.getD_eq_getElem?_getD, h]; rfl
theorem at_rw {rows : List Row} {j : Nat} (h : j < rows.length) : rows[j]? = some (rw_ rows j) := by
  unfold rw_; rw [List.getD_eq_getElem?_getD, List.getElem?_eq_getElem h]; rfl
theorem rw_set {rows : List Row} {j i : Nat} {row : Row} (h : j < rows.length) : rw_ (rows.set j row) i = if i = j then row else rw_ rows i := by
  unfold rw_
  rw [List.getD_eq_getElem?_getD, List.getElem?_set, List.getD_eq_getElem?_getD]
  by_cases hi : i = j
  · subst hi
    rw [if_pos rfl, if_pos rfl, if_pos h]; rfl
  · rw [if_neg hi, if_neg (fun z => hi z.symm)]
/-- one that follows st at k is put in -/
def put (most k : Nat) (st : List Int) (rows : List Row) (x : Nx) : List Row :=
  if k + x.2.1.toNat ≤ most ∧ rowGet (rw_ rows (k + x.2.1.toNat)) x.2.2 = none then rows.set (k + x.2.1.toNat) (rw_ rows (k + x.2.1.toNat) ++ [(x.2.2, dE x.1 k st)]) else rows
def puts (most k : Nat) (nx : List Int → List Nx) (rows : List Row) (st : List Int) : List Row := (nx st).foldl (put most k st) rows
def proc (ord : List (List Int) → List (List Int)) (nx : List Int → List Nx) (most : Nat) (rows : List Row) (k : Nat) : List Row := (ord (keysOf (rw_ rows k))).foldl (puts most k nx) rows
def start (z : List Int) (most : Nat) : List Row := [(z, .non)] :: List.replicate most []
def table (ord : List (List Int) → List (List Int)) (nx : List Int → List Nx) (z : List Int) (most k : Nat) : List Row := (List.range k).foldl (proc ord nx most) (start z most)
/-- what can be come to -/
inductive Rch (nx : List Int → List Nx) (z : List Int) : Nat → List Int → Prop
  | zero : Rch nx z 0 z
  | step {k : Nat} {st : List Int} {x : Nx} : Rch nx z k st → x ∈ nx st → Rch nx z (k + x.2.1.toNat) x.2.2
/-- what a turn keeps -/
structure Inv (nx : List Int → List Nx) (z : List Int) (most : Nat) (rows : List Row) : Prop where
  len : rows.length = most + 1
  sound : ∀ j, ∀ key ∈ keysOf (rw_ rows j), Rch nx z j key
  nd : ∀ j, (keysOf (rw_ rows j)).Nodup
  ent : ∀ j, ∀ p ∈ rw_ rows j, (j = 0 ∧ p = (z, .non)) ∨ ∃ i st x, p = (x.2.2, dE x.1 i st) ∧ x ∈ nx st ∧ i + x.2.1.toNat = j ∧ 1 ≤ x.2.1 ∧ st ∈ keysOf (rw_ rows i)
  zero : z ∈ keysOf (rw_ rows 0)
/-- more is in, up to k nothing else -/
structure Grows (k : Nat) (rows rows' : List Row) : Prop where
  sub : ∀ j, ∀ p ∈ rw_ rows j, p ∈ rw_ rows' j
  same : ∀ j, j ≤ k → rw_ rows' j = rw_ rows j
theorem Grows.refl {k : Nat} {rows : List Row} : Grows k rows rows := ⟨fun _ _ h => h, fun _ _ => rfl⟩
theorem Grows.trans {k : Nat} {a b c : List Row} (h : Grows k a b) (g : Grows k b c) : Grows k a c := ⟨fun j p q => g.sub j p (h.sub j p q), fun j hj => (g.same j hj).trans (h.same j hj)⟩
theorem Grows.keys {k : Nat} {a b : List Row} (h : Grows k a b) {j : Nat} {key : List Int} (q : key ∈ keysOf (rw_ a j)) : key ∈ keysOf (rw_ b j) := by
  obtain ⟨p, hp, rfl⟩ := List.mem_map.mp q
  exact List.mem_map.mpr ⟨p, h.sub j p hp, rfl⟩
theorem rw_rep {n j : Nat} : rw_ (List.replicate n []) j = [] := by
  unfold rw_
  rw [List.getD_eq_getElem?_getD, List.getElem?_replicate]
  split <;> rfl
theorem rw_start {z : List Int} {most j : Nat} : rw_ (start z most) j = if j = 0 then [(z, .non)] else [] := by
  cases j with
  | zero => rfl
  | succ j =>
    show rw_ (List.replicate most []) j = _
    rw [rw_rep]; rfl
theorem inv_start {nx : List Int → List Nx} {z : List Int} {most : Nat} : Inv nx z most (start z most) := by
  refine ⟨by unfold start; simp, fun j key h => ?_, fun j => ?_, fun j p h => ?_, ?_⟩
  · rw [rw_start] at h
    split at h
    · rename_i hj
      rw [hj, List.mem_singleton.mp h]; exact .zero
    · cases h
  · rw [rw_start]
    split
    · exact List.nodup_cons.mpr ⟨List.not_mem_nil, List.nodup_nil⟩
    · exact List.nodup_nil
  · rw [rw_start] at h
    split at h
    · rename_i hj
      exact .inl ⟨hj, List.mem_singleton.mp h⟩
    · cases h
  · rw [rw_start, if_pos rfl]; exact List.mem_singleton.mpr rfl
section
variable {nx : List Int → List Nx} {z : List Int} {most k : Nat} {st : List Int} {rows : List Row} {x : Nx}
theorem put_ok (I : Inv nx z most rows) (hs : st ∈ keysOf (rw_ rows k)) (hx : x ∈ nx st) (h1 : 1 ≤ x.2.1) : Inv nx z most (put most k st rows x) ∧ Grows k rows (put most k st rows x) ∧ (k + x.2.1.toNat ≤ most → x.2.2 ∈ keysOf (rw_ (put most k st rows x) (k + x.2.1.toNat))) := by
  have hf : 1 ≤ x.2.1.toNat := by omega
  unfold put
  by_cases hc : k + x.2.1.toNat ≤ most ∧ rowGet (rw_ rows (k + x.2.1.toNat)) x.2.2 = none
  · rw [if_pos hc]
    generalize hj : k + x.2.1.toNat = j at hc
    obtain ⟨hm, hn⟩ := hc
    have hl : j < rows.length := by rw [I.len]; omega
    have rs : ∀ i, rw_ (rows.set j (rw_ rows j ++ [(x.2.2, dE x.1 k st)])) i = if i = j then rw_ rows j ++ [(x.2.2, dE x.1 k st)] else rw_ rows i := fun i => rw_set hl
    have le : (rows.set j (rw_ rows j ++ [(x.2.2, dE x.1 k st)])).length = most + 1 := by rw [List.length_set]; exact I.len
    generalize rows.set j (rw_ rows j ++ [(x.2.2, dE x.1 k st)]) = rows' at rs le
    have sub : ∀ i, ∀ p ∈ rw_ rows i, p ∈ rw_ rows' i := fun i p hp => by
      rw [rs]
      split
      · rename_i e; rw [← e]; exact List.mem_append_left _ hp
      · exact hp
    have ksub : ∀ i, ∀ q ∈ keysOf (rw_ rows i), q ∈ keysOf (rw_ rows' i) := fun i q hq => by
      obtain ⟨p, hp, rfl⟩ := List.mem_map.mp hq
      exact List.mem_map.mpr ⟨p, sub i p hp, rfl⟩
    have kj : keysOf (rw_ rows j ++ [(x.2.2, dE x.1 k st)]) = keysOf (rw_ rows j) ++ [x.2.2] := by unfold keysOf; rw [List.map_append]; rfl
    have snd : Rch nx z j x.2.2 := by rw [← hj]; exact .step (I.sound k st hs) hx
    refine ⟨⟨le, fun i key hk => ?_, fun i => ?_, fun i p hp => ?_, ksub 0 z I.zero⟩, ⟨sub, fun i hi => ?_⟩, fun _ => ?_⟩
    · rw [rs] at hk
      split at hk
      · rename_i e
        rw [kj] at hk
        rcases List.mem_append.mp hk with w | w
        · rw [e]; exact I.sound j key w
        · rw [e, List.mem_singleton.mp w]; exact snd
      · exact I.sound i key hk
    · rw [rs]
      split
      · rw [kj]
        refine List.nodup_append.mpr ⟨I.nd j, List.nodup_cons.mpr ⟨List.not_mem_nil, List.nodup_nil⟩, fun a ha b hb e => ?_⟩
        rw [List.mem_singleton.mp hb] at e
        rw [e] at ha
        exact rowGet_none.mp hn ha
      · exact I.nd i
    · rw [rs] at hp
      split at hp
      · rename_i e
        rcases List.mem_append.mp hp with w | w
        · rcases I.ent j p w with q | ⟨i', st', x', q1, q2, q3, q4, q5⟩
          · exact .inl ⟨by rw [e]; exact q.1, q.2⟩
          · exact .inr ⟨i', st', x', q1, q2, by rw [e]; exact q3, q4, ksub i' st' q5⟩
        · exact .inr ⟨k, st, x, List.mem_singleton.mp w, hx, by rw [e]; exact hj, h1, ksub k st hs⟩
      · rcases I.ent i p hp with q | ⟨i', st', x', q1, q2, q3, q4, q5⟩
        · exact .inl q
        · exact .inr ⟨i', st', x', q1, q2, q3, q4, ksub i' st' q5⟩
    · rw [rs, if_neg (by omega)]
    · rw [rs, if_pos rfl, kj]
      exact List.mem_append_right _ (List.mem_singleton.mpr rfl)
  · rw [if_neg hc]
    refine ⟨I, .refl, fun hm => ?_⟩
    cases q : rowGet (rw_ rows (k + x.2.1.toNat)) x.2.2 with
    | none => exact absurd ⟨hm, q⟩ hc
    | some d => exact List.mem_map.mpr ⟨_, rowGet_some q, rfl⟩
/-- a fold of puts, any part of what follows -/
theorem puts_ok : ∀ (xs : List Nx) {rows : List Row}, Inv nx z most rows → st ∈ keysOf (rw_ rows k) → (∀ x ∈ xs, x ∈ nx st ∧ 1 ≤ x.2.1) →
    Inv nx z most (xs.foldl (put most k st) rows) ∧ Grows k rows (xs.foldl (put most k st) rows) ∧ ∀ x ∈ xs, k + x.2.1.toNat ≤ most → x.2.2 ∈ keysOf (rw_ (xs.foldl (put most k st) rows) (k + x.2.1.toNat))
  | [], rows, I, _, _ => ⟨I, .refl, fun _ h => by cases h⟩
  | x :: xs, rows, I, hs, hx => by
    obtain ⟨h1, h2⟩ := hx x List.mem_cons_self
    obtain ⟨i1, g1, c1⟩ := put_ok I hs h1 h2
    obtain ⟨i2, g2, c2⟩ := puts_ok xs i1 (g1.keys hs) fun y hy => hx y (List.mem_cons_of_mem _ hy)
    rw [List.foldl_cons]
    refine ⟨i2, g1.trans g2, fun y hy hm => ?_⟩
    rcases List.mem_cons.mp hy with w | w
    · rw [w]; rw [w] at hm; exact g2.keys (c1 hm)
    · exact c2 y w hm
/-- a fold over stands of row k -/
theorem proc_part (hp : ∀ j st, Rch nx z j st → ∀ x ∈ nx st, 1 ≤ x.2.1) : ∀ (ss : List (List Int)) {rows : List Row}, Inv nx z most rows → (∀ st ∈ ss, st ∈ keysOf (rw_ rows k)) →
    Inv nx z most (ss.foldl (puts most k nx) rows) ∧ Grows k rows (ss.foldl (puts most k nx) rows) ∧ ∀ st ∈ ss, ∀ x ∈ nx st, k + x.2.1.toNat ≤ most → x.2.2 ∈ keysOf (rw_ (ss.foldl (puts most k nx) rows) (k + x.2.1.toNat))
  | [], rows, I, _ => ⟨I, .refl, fun _ h => by cases h⟩
  | st :: ss, rows, I, hs => by
    have h0 := hs st List.mem_cons_self
    obtain ⟨i1, g1, c1⟩ := puts_ok (st := st) (nx st) I h0 fun x hx => ⟨hx, hp k st (I.sound k st h0) x hx⟩
    obtain ⟨i2, g2, c2⟩ := proc_part hp ss i1 fun s hs' => g1.keys (hs s (List.mem_cons_of_mem _ hs'))
    rw [List.foldl_cons]
    refine ⟨i2, g1.trans g2, fun s hs' x hx hm => ?_⟩
    rcases List.mem_cons.mp hs' with w | w
    · subst w; exact g2.keys (c1 x hx hm)
    · exact c2 s w x hx hm
variable {ord : List (List Int) → List (List Int)}
theorem table_succ (k : Nat) : table ord nx z most (k + 1) = proc ord nx most (table ord nx z most k) k := by
  unfold table
  rw [List.range_succ, List.foldl_append]; rfl
theorem table_ok (hp : ∀ j st, Rch nx z j st → ∀ x ∈ nx st, 1 ≤ x.2.1) (ho : ∀ ks s, s ∈ ord ks ↔ s ∈ ks) : ∀ k, Inv nx z most (table ord nx z most k) ∧ ∀ i, i < k → ∀ st ∈ keysOf (rw_ (table ord nx z most k) i), ∀ x ∈ nx st, i + x.2.1.toNat ≤ most → x.2.2 ∈ keysOf (rw_ (table ord nx z most k) (i + x.2.1.toNat))
  | 0 => ⟨inv_start, fun i h => absurd h (Nat.not_lt_zero _)⟩
  | k + 1 => by
    obtain ⟨i1, c1⟩ := table_ok hp ho k
    rw [table_succ]
    obtain ⟨i2, g2, c2⟩ := proc_part (k := k) hp (ord (keysOf (rw_ (table ord nx z most k) k))) i1 fun s hs => (ho _ _).mp hs
    refine ⟨i2, fun i hi st hs x hx hm => ?_⟩
    show x.2.2 ∈ keysOf (rw_ (proc ord nx most (table ord nx z most k) k) _)
    unfold proc at hs ⊢
    rw [g2.same i (by omega)] at hs
    by_cases hik : i = k
    · subst hik
      exact c2 st ((ho _ _).mpr hs) x hx hm
    · exact g2.keys (c1 i (by omega) st hs x hx hm)
/-- all that can be come to, and no other, is in the table -/
theorem table_keys (hp : ∀ j st, Rch nx z j st → ∀ x ∈ nx st, 1 ≤ x.2.1) (ho : ∀ ks s, s ∈ ord ks ↔ s ∈ ks) {j : Nat} (hj : j ≤ most) {key : List Int} : key ∈ keysOf (rw_ (table ord nx z most most) j) ↔ Rch nx z j key := by
  obtain ⟨I, c⟩ := table_ok (most := most) hp ho most
  refine ⟨I.sound j key, fun h => ?_⟩
  induction h with
  | zero => exact I.zero
  | step h hx ih =>
    rename_i k st x
    have h1 := hp k st h x hx
    have : 1 ≤ x.2.1.toNat := by omega
    exact c k (by omega) st (ih (by omega)) x hx hj
end
/-- the same stands, if the same follow -/
theorem Rch.same {nx ny : List Int → List Nx} {z : List Int} {j : Nat} {key : List Int} (hs : ∀ j st, Rch nx z j st → ∀ x, x ∈ nx st → x ∈ ny st) (h : Rch nx z j key) : Rch ny z j key := by
  induction h with
  | zero => exact .zero
  | step h hx ih => exact .step ih (hs _ _ h _ hx)
/-- what can be come to is a stand -/
theorem rch_st {gs : List Int} (hg : ∀ g ∈ gs, 1 ≤ g ∧ g ≤ 12) (h0 : St gs (zeros gs)) {j : Nat} {key : List Int} (h : Rch (nexts gs) (zeros gs) j key) : St gs key := by
  induction h with
  | zero => exact h0
  | step h hx ih => exact (nexts_spec hg ih hx).2.2.2.2.2
/-- all stands of glasses to twelve -/
def box : Nat → List (List Int)
  | 0 => [[]]
  | n + 1 => (List.range 13).flatMap fun (i : Nat) => (box n).map fun s => (i : Int) :: s
theorem box_mem : ∀ {gs ss : List Int}, (∀ g ∈ gs, g ≤ 12) → St gs ss → ss ∈ box gs.length
  | [], [], _, _ => List.mem_singleton.mpr rfl
  | [], _ :: _, _, h => by have := h.len; simp at this
  | _ :: _, [], _, h => by have := h.len; simp at this
  | g :: gs, s :: ss, hg, h => by
    have h0 := h.ok 0 (by simp) (by simp)
    have h0 : 0 ≤ s ∧ s ≤ g := h0
    have hgg := hg g List.mem_cons_self
    have ih := box_mem (gs := gs) (ss := ss) (fun x hx => hg x (List.mem_cons_of_mem _ hx)) ⟨by have := h.len; simpa using this, fun i h1 h2 => by
      have := h.ok (i + 1) (by simp; exact h1) (by simp; exact h2)
      simpa using this⟩
    show s :: ss ∈ (List.range 13).flatMap fun (i : Nat) => (box gs.length).map fun s => (i : Int) :: s
    refine List.mem_flatMap.mpr ⟨s.toNat, List.mem_range.mpr (by omega), List.mem_map.mpr ⟨ss, ih, ?_⟩⟩
    rw [Int.toNat_of_nonneg h0.1]
theorem box_len (n : Nat) : (box n).length = 13 ^ n := by
  induction n with
  | zero => rfl
  | succ n ih =>
    show ((List.range 13).flatMap fun (i : Nat) => (box n).map fun s => (i : Int) :: s).length = _
    rw [List.length_flatMap]
    simp only [List.length_map, ih]
    rw [Nat.pow_succ]
    simp [List.range, List.range.loop]
    omega
theorem cq_dT (ns : List Int) {n : Nat} : Cq (n + 1) (dT ns) := cq_tup fun x hx => by
  obtain ⟨i, _, rfl⟩ := List.mem_map.mp hx; exact cq_int i
theorem alike_dT (a b : List Int) : W.alike (toPy (dT a)) (toPy (dT b)) = true := by
  unfold toPy W.alike
  rw [toPyL_ints, toPyL_ints]
  exact W.alike_ints a b
theorem srtb_dT (xs : List (List Int)) (h : ∀ x ∈ xs, x ≠ []) : Srtb (xs.map dT) := by
  refine ⟨plnL_of fun d hd => ?_, ?_, .inl fun d hd => ?_, fun d hd => ?_⟩
  · obtain ⟨x, _, rfl⟩ := List.mem_map.mp hd; exact (cq_dT x (n := 0)).p
  · rw [List.map_map]; exact W.AllAlike.of fun a b => alike_dT a b
  · rw [List.map_map] at hd
    obtain ⟨x, hx, rfl⟩ := List.mem_map.mp hd
    cases x with
    | nil => exact absurd rfl (h _ hx)
    | cons n ns => exact ⟨_, _, rfl⟩
  · obtain ⟨x, _, rfl⟩ := List.mem_map.mp hd; exact Nat.le_trans (cq_dT x (n := 0)).z (by decide)
def sortT (xs : List (List Int)) : List (List Int) := xs.mergeSort fun a b => leD (dT a) (dT b)
theorem sortT_mem {xs : List (List Int)} {x : List Int} : x ∈ sortT xs ↔ x ∈ xs := List.mem_mergeSort
theorem sort_dT (xs : List (List Int)) : sortD (xs.map dT) = (sortT xs).map dT := by
  unfold sortD sortT
  exact (List.map_mergeSort (f := dT) fun x _ y _ => rfl).symm
/-- rows are short -/
theorem inv_small {gs : List Int} (hg : Gl gs) {most : Nat} {rows : List Row} (I : Inv (nexts gs) (zeros gs) most rows) (j : Nat) : (rw_ rows j).length ≤ 2197 := by
  have h1 : (keysOf (rw_ rows j)).length ≤ (box gs.length).length := (I.nd j).length_le_of_subset fun key hk => box_mem (fun g h => (hg.all g h).2) (rch_st hg.all (zeros_st hg.all) (I.sound j key hk))
  rw [box_len] at h1
  have h2 : 13 ^ gs.length ≤ 13 ^ 3 := Nat.pow_le_pow_right (by decide) hg.hi
  have h3 : (keysOf (rw_ rows j)).length = (rw_ rows j).length := by unfold keysOf; rw [List.length_map]
  omega
theorem inv_st {gs : List Int} (hg : Gl gs) {most : Nat} {rows : List Row} (I : Inv (nexts gs) (zeros gs) most rows) {j : Nat} {key : List Int} (h : key ∈ keysOf (rw_ rows j)) : St gs key := rch_st hg.all (zeros_st hg.all) (I.sound j key h)
theorem st_ne {gs key : List Int} (hg : Gl gs) (h : St gs key) : key ≠ [] := fun z => by
  have h1 := h.len
  rw [z] at h1
  have h2 : gs.length = 0 := h1
  have := hg.lo
  omega
theorem knd1_is {ns : List Int} (h : ns.length ≤ 1000000) : knd1 (dI ns) = true := by
  show (_ && _) = true
  rw [List.length_map, lenOk_of h, Bool.true_and, List.all_map]
  exact List.all_eq_true.mpr fun _ _ => rfl
theorem knd2_ps {p : List (List Int)} (h : p.length ≤ 1000000) (hd : ∀ d ∈ p, d.length ≤ 1000000) : knd2 (dL p) = true := by
  show (_ && _) = true
  rw [List.length_map, lenOk_of h, Bool.true_and, List.all_map]
  exact List.all_eq_true.mpr fun d hm => knd1_is (hd d hm)
end M

set_option Elab.async false
set_option linter.all false
set_option maxRecDepth 100000
set_option maxHeartbeats 4000000
namespace R
open PySem L2 DL M
section
variable {P : Program} {w : World} {K : PySem.W.Frag} {mg : Str → Option Value} {base : Heap}
abbrev reachT (gs : List Int) (most k : Nat) : List Row := table sortT (nexts gs) (zeros gs) most k
abbrev sp_reached : Sp := PurTb (fun a : List Int × Nat => [dI a.1, dL [zeros a.1], .int (a.2 : Int)]) (fun a => Gl a.1 ∧ a.2 ≤ 1000) fun a => reachT a.1 a.2 a.2
theorem nexts_pos {gs : List Int} {st : List Int} {x : Nx} (h : x ∈ nexts gs st) : 1 ≤ x.2.1 := by
  have := of_decide_eq_true (List.mem_filter.mp h).2
  omega
theorem ok_reached (T : Txt K mg) : FnOk P w K mg base CX0 3 T.d_reached.f T.d_reached.fd ["glasses", "begin", "most"] sp_reached := by
  refine Fun.purTb T.d_reached.F sc_reached (fun _ => rfl) (by decide) fun cdv A outer s H σ E Q a hr hp h q => ?_
  obtain ⟨gs, most⟩ := a
  obtain ⟨hg, hm⟩ := hp
  dsimp only at hg hm q
  have nd := sc_reached.nd
  have hu := hr.units
  refine w_tabs (n := most + 1) 2 4 [("tick", 3)] (.nm 3) (i_rangeN T.z_range (d_z (d_add (d_x 2 rfl) d_i) (by omega)) (by omega)) (fun s H' C cl fp => p_nm 3 nd) (fun i => ⟨_, rfl⟩) h (fun l ds σ1 H1 e1 hnew h1 => ?_) (by omega) nd (bk_reached (by decide +kernel)) rfl
  dsimp only [List.set, List.map, List.cons_append, List.nil_append, List.length, List.replicate] at h1
  rw [List.append_nil] at h1
  have hl0 : gs.length ≤ 3 := hg.hi
  refine w_forZ (S := List Row) (.nm 5) (i_list (m := 1) (d_x 1 rfl)) (by decide) (p_nm 5 nd) PassesOwn.never rfl h1 (fun rows => [gStay H, gTb 2 l ds rows]) (fun _ => [.dat 1 (dI gs), .dat 1 (dL [zeros gs]), .dat 1 (.int (most : Int)), .any, .raw (.ref l), .any, .any, .any, .any])
    (fun i rows => if i = 0 then rows = List.replicate (most + 1) [] else rows = start (zeros gs) most) (List.replicate (most + 1) []) rfl rfl (fun Z' H' h => h) (fun i d rows B σ2 H2 hd is h2 => ?_) fun rows σ2 H2 is h2 => ?_
  · have hi : i = 0 := by
      cases i with
      | zero => rfl
      | succ i => cases hd
    subst hi
    cases hd
    rw [if_pos rfl] at is
    subst is
    refine ⟨_, rfl, fun σ3 H3 h3 => ?_⟩
    dsimp only [List.set] at h3
    have r0 : (List.replicate (most + 1) ([] : Row))[0]? = some [] := rfl
    have hgt : gTb 2 l ds (List.replicate (most + 1) []) ∈ [gStay H, gTb 2 l ds (List.replicate (most + 1) [])] := by simp
    refine w_putT hu 1 0 rfl d_n (r_row 0 hgt (r_x 4 rfl) d_i (by simp)) (d_tupleS T.z_tuple (d_x 5 rfl) (scL_ints _)) r0 rfl (by decide) h3 fun H4 h4 => wp_nil ⟨start (zeros gs) most, ?_, ?_⟩
    · rw [if_neg (by omega)]
    · exact h4.drop 5
  · rw [show (List.map dI [zeros gs]).length = 1 from rfl, if_neg (by omega)] at is
    subst is
    refine w_forZ (S := List Row) (.nm 3) (i_rangeN T.z_range (d_x 2 rfl) (by omega)) (by decide) (p_nm 3 nd) PassesOwn.never rfl h2 (fun rows => [gStay H, gTb 2 l ds rows]) (fun _ => [.dat 1 (dI gs), .dat 1 (dL [zeros gs]), .dat 1 (.int (most : Int)), .any, .raw (.ref l), .any, .any, .any, .any])
      (fun k rows => rows = reachT gs most k) (start (zeros gs) most) rfl rfl (fun Z' H' h => h) (fun k d rows B σ3 H3 hd is h3 => ?_) fun rows σ3 H3 is h3 => ?_
    · obtain ⟨hk, rfl⟩ := rng_get hd
      rw [Int.zero_add]
      subst is
      refine ⟨_, rfl, fun σ4 H4 h4 => ?_⟩
      dsimp only [List.set] at h4
      have I0 : Inv (nexts gs) (zeros gs) most (reachT gs most k) := (table_ok (fun _ _ _ _ h => nexts_pos h) (fun ks s => sortT_mem) k).1
      generalize hR : reachT gs most k = rk at I0 h4
      have hkl : k < rk.length := by rw [I0.len]; omega
      have hgk : gTb 2 l ds rk ∈ [gStay H, gTb 2 l ds rk] := by simp
      have nt : NoTu { h0 := wt H, fs := [B], ex := l :: ds, gs := [gStay H, gTb 2 l ds rk] } := fun a ha => ⟨_, hgk, ha, gTb_ntu⟩
      have ek : ((rw_ rk k).map fun p => dT p.1) = (keysOf (rw_ rk k)).map dT := by unfold keysOf; rw [List.map_map]; rfl
      generalize hks : sortT (keysOf (rw_ rk k)) = ks
      have hmem : ∀ st ∈ ks, st ∈ keysOf (rw_ rk k) := fun st hst => by rw [← hks] at hst; exact sortT_mem.mp hst
      refine w_forZ (S := List Row) (m := 2) (xs := ks.map dT) (.nm 5) (i_list (d_eq (n_d (n_sortedL hu T.z_sorted (l_n (n_listK 2 k hgk nt (r_row k hgk (r_x 4 rfl) (d_x 3 rfl) hkl) (at_rw hkl) T.z_list (okM.two rfl))) (by rw [ek]; exact srtb_dT _ fun x hx => st_ne hg (inv_st hg I0 hx)))) (by rw [ek, sort_dT, hks])))
        (by decide) (p_nm 5 nd) PassesOwn.never rfl h4 (fun rows => [gStay H, gTb 2 l ds rows]) (fun _ => [.dat 1 (dI gs), .dat 1 (dL [zeros gs]), .dat 1 (.int (most : Int)), .dat 2 (.int (k : Int)), .raw (.ref l), .any, .any, .any, .any])
        (fun i rows => rows = (ks.take i).foldl (puts most k (nexts gs)) rk ∧ Inv (nexts gs) (zeros gs) most rows ∧ Grows k rk rows) rk ⟨rfl, I0, .refl⟩ rfl (fun Z' H' h => h) (fun i d rows B2 σ5 H5 hd is h5 => ?_) fun rows σ5 H5 is h5 => ?_
      · obtain ⟨st, hst, rfl⟩ : ∃ st, ks[i]? = some st ∧ d = dT st := by
          rw [List.getElem?_map] at hd
          obtain ⟨st, h1, h2⟩ := Option.map_eq_some_iff.mp hd
          exact ⟨st, h1, h2.symm⟩
        obtain ⟨e1', I1, g1⟩ := is
        refine ⟨_, rfl, fun σ6 H6 h6 => ?_⟩
        dsimp only [List.set] at h6
        have hsk : st ∈ keysOf (rw_ rk k) := hmem st (List.mem_of_getElem? hst)
        have hsS : St gs st := inv_st hg I0 hsk
        refine w_forZ (S := List Row) (m := 3) (xs := (nexts gs st).map dN) (.tp [.nm 6, .nm 7, .nm 8]) (i_list (d_fn T.d_nexts (ok_nexts T) hr pass0 (Pur.gives (gs, st) ⟨hsS.len, by dsimp only; omega⟩) (a_cons (d_x 0 rfl) (a_cons (d_listTS T.z_list (d_x 5 rfl) (scL_ints _)) a_nil))))
          (by decide) (p_tp (q_cons (p_nm 6 nd) (q_cons (p_nm 7 nd) (q_cons (p_nm 8 nd) q_nil)))) PassesOwn.never rfl h6 (fun rows => [gStay H, gTb 2 l ds rows]) (fun _ => [.dat 1 (dI gs), .dat 1 (dL [zeros gs]), .dat 1 (.int (most : Int)), .dat 2 (.int (k : Int)), .raw (.ref l), .dat 2 (dT st), .any, .any, .any])
          (fun j rws => rws = ((nexts gs st).take j).foldl (put most k st) rows ∧ Inv (nexts gs) (zeros gs) most rws ∧ Grows k rows rws) rows ⟨rfl, I1, .refl⟩ rfl (fun Z' H' h => h) (fun jj d rws B3 σ7 H7 hd is h7 => ?_) fun rws σ7 H7 is h7 => ?_
        · obtain ⟨x, hx, rfl⟩ : ∃ x, (nexts gs st)[jj]? = some x ∧ d = dN x := by
            rw [List.getElem?_map] at hd
            obtain ⟨st, h1, h2⟩ := Option.map_eq_some_iff.mp hd
            exact ⟨st, h1, h2.symm⟩
          obtain ⟨e2', I2, g2⟩ := is
          refine ⟨_, rfl, fun σ8 H8 h8 => ?_⟩
          dsimp only [List.set] at h8
          have hxm : x ∈ nexts gs st := List.mem_of_getElem? hx
          have hx1 := nexts_pos hxm
          have pk := put_ok I2 (g2.keys (g1.keys hsk)) hxm hx1
          have tk : ((nexts gs st).take (jj + 1)).foldl (put most k st) rows = put most k st rws x := by
            rw [take_succ_get hx, List.foldl_append, ← e2']; rfl
          obtain ⟨deed, far, there⟩ := x
          dsimp only at hx1
          have hgw : gTb 2 l ds rws ∈ [gStay H, gTb 2 l ds rws] := by simp
          have hjz : (k : Int) + far = ((k + far.toNat : Nat) : Int) := by omega
          refine w_if (b := decide ((k : Int) + far ≤ (most : Int)) && !(rowGet (rw_ rws (k + far.toNat)) there).isSome) (t_bool (w_and (t_le (d_add (d_x 3 rfl) (d_x 7 rfl)) (d_x 2 rfl)) fun hb => ?_)) h8 (fun hb H9 e9 h9 => ?_) fun hb H9 e9 h9 => ?_
          · have hb := of_decide_eq_true hb
            have hjl : k + far.toNat < rws.length := by rw [I2.len]; omega
            exact w_and1 (t_notInT hu (k + far.toNat) hgw (d_tupleS T.z_tuple (d_x 8 rfl) (scL_ints _)) (r_row (k + far.toNat) hgw (r_x 4 rfl) (d_z (d_add (d_x 3 rfl) (d_x 7 rfl))) hjl) (at_rw hjl))
          · have hb := Bool.and_eq_true_iff.mp hb
            have hb1 := of_decide_eq_true hb.1
            have hb2 : rowGet (rw_ rws (k + far.toNat)) there = none := by
              cases z : rowGet (rw_ rws (k + far.toNat)) there with
              | none => rfl
              | some d => have := hb.2; rw [z] at this; cases this
            have hjm : k + far.toNat ≤ most := by omega
            have hjl : k + far.toNat < rws.length := by rw [I2.len]; omega
            have hsm := inv_small hg I2 (k + far.toNat)
            refine w_putT hu 1 (k + far.toNat) rfl (d_tup (a_cons (d_x 6 rfl) (a_cons (d_x 3 rfl) (a_cons (d_x 5 rfl) a_nil))) (show 3 ≤ sizeLine by decide)) (r_row (k + far.toNat) hgw (r_x 4 rfl) (d_z (d_add (d_x 3 rfl) (d_x 7 rfl))) hjl) (d_tupleS T.z_tuple (d_x 8 rfl) (scL_ints _)) (at_rw hjl) hb2 (by omega) h9 fun H10 h10 => w_end ?_
            refine wp_nil ⟨put most k st rws (deed, far, there), ⟨tk.symm, pk.1, g2.trans pk.2.1⟩, ?_⟩
            have h11 := h10.drops [6, 7, 8]
            dsimp only [anyAt, List.foldl, List.set] at h11
            unfold put
            dsimp only
            rw [if_pos ⟨hjm, hb2⟩]
            exact h11
          · refine w_end ?_
            refine wp_nil ⟨put most k st rws (deed, far, there), ⟨tk.symm, pk.1, g2.trans pk.2.1⟩, ?_⟩
            have h11 := h9.drops [6, 7, 8]
            dsimp only [anyAt, List.foldl, List.set] at h11
            unfold put
            dsimp only
            rw [if_neg fun z => by
              rw [z.2, decide_eq_true (show (k : Int) + far ≤ (most : Int) by have := z.1; omega)] at hb
              cases hb]
            exact h11
        · obtain ⟨e2', I2, g2⟩ := is
          refine wp_nil ⟨rws, ⟨?_, I2, g1.trans g2⟩, h7.drop 5⟩
          rw [List.length_map, List.take_length] at e2'
          rw [e2', e1', take_succ_get hst, List.foldl_append]; rfl
      · obtain ⟨e1', I1, g1⟩ := is
        refine wp_nil ⟨rows, ?_, h5.drop 3⟩
        rw [List.length_map, List.take_length] at e1'
        rw [e1', ← hks, ← hR]
        exact (table_succ k).symm
    · rw [rng_len] at is
      subst is
      refine w_retR (r_x 4 rfl) h3 fun H4 e4 h4 => ?_
      have hgt : gTb 2 l ds (reachT gs most most) ∈ [gStay H, gTb 2 l ds (reachT gs most most)] := by simp
      obtain ⟨o1, o2⟩ := tab_out h4 rfl (List.mem_cons_self) hgt hnew
      exact q l ds H4 o1 hnew o2
end
end R

set_option Elab.async false
set_option linter.all false
set_option maxRecDepth 100000
set_option maxHeartbeats 4000000
namespace R
open PySem L2 DL M
section
variable {P : Program} {w : World} {K : PySem.W.Frag} {mg : Str → Option Value} {base : Heap}
abbrev sp_check_ticks (C : Addr) : Sp := PurX (fun a : D => [a]) (fun a => knd a = true) fun a => if isWithin 1 40 a then .inr .non else .inl C
theorem ok_check_ticks (T : Txt K mg) : FnOk P w K mg base (L2.CX P w) 3 T.d_check_ticks.f T.d_check_ticks.fd ["ticks"] (sp_check_ticks T.e_BadTicks.C) := by
  refine Fun.purX T.d_check_ticks.F sc_check_ticks (fun _ => rfl) (by decide) fun cdv A outer s H σ E Q d hr hp h q => ?_
  have nd := sc_check_ticks.nd
  refine w_if (t_not (t_val (d_fn T.d_is_within (ok_is_within T) hr pass0 (Pur.gives (d, 1, 40) hp) (a_cons (d_x 0 rfl) (a_cons d_i (a_cons (d_gc T.c_MOST_TICKS) a_nil)))))) h (fun hb H1 e1 h1 => ?_) fun hb H1 e1 h1 => ?_
  · refine w_raise T.e_BadTicks (takes_of rfl rfl rfl rfl) ?_
    cases z : isWithin 1 40 d with
    | true => dsimp only at hb; rw [z] at hb; cases hb
    | false => rw [z] at q; exact q _ e1
  · refine w_end (wp_nil ?_)
    cases z : isWithin 1 40 d with
    | true => rw [z] at q; exact q .non H1 e1 .non
    | false => dsimp only at hb; rw [z] at hb; cases hb
end
end R

set_option Elab.async false
set_option linter.all false
set_option maxRecDepth 100000
/-! M20: plans counted from the last fall back; the stack of fill. -/
namespace M
open PySem L2 DL
/-- those that follow within r ticks -/
def nxW (nx : List Int → List Nx) (r : Nat) (st : List Int) : List Nx := (nx st).filter fun x => decide (x.2.1.toNat ≤ r)
def sumF {α : Type} (f : α → Int) (xs : List α) : Int := (xs.map f).sum
/-- the least of some, 0 of none -/
def min0 (ns : List Int) : Int := if ns = [] then 0 else minI ns
def fewL (f : Nx → Int × Int) (xs : List Nx) : List Int := (xs.filter fun x => decide (0 < (f x).1)).map fun x => (x.1.length : Int) + (f x).2
def cf (nx : List Int → List Nx) : Nat → Nat → List Int → Int × Int
  | _, 0, _ => (1, 0)
  | 0, _ + 1, _ => (0, 0)
  | f + 1, r + 1, st => (sumF (fun x => (cf nx f (r + 1 - x.2.1.toNat) x.2.2).1) (nxW nx (r + 1) st), min0 (fewL (fun x => cf nx f (r + 1 - x.2.1.toNat) x.2.2) (nxW nx (r + 1) st)))
/-- how many plans lead on to a fall r ticks later; with how few turned glasses one does -/
def cnt (nx : List Int → List Nx) (r : Nat) (st : List Int) : Int × Int := cf nx r r st
def Wf (nx : List Int → List Nx) : Nat → Nat → List Int → Nat
  | 0, _, _ => 2
  | f + 1, r, st => 2 + ((nxW nx r st).map fun x => Wf nx f (r - x.2.1.toNat) x.2.2).sum
def Wt (nx : List Int → List Nx) (r : Nat) (st : List Int) : Nat := Wf nx r r st
section
variable {nx : List Int → List Nx} (hp : ∀ st, ∀ x ∈ nx st, 1 ≤ x.2.1)
theorem nxW_mem {r : Nat} {st : List Int} {x : Nx} : x ∈ nxW nx r st ↔ x ∈ nx st ∧ x.2.1.toNat ≤ r := by
  unfold nxW
  rw [List.mem_filter]
  exact and_congr Iff.rfl (by simp)
theorem sumF_congr {α : Type} {f g : α → Int} {xs : List α} (h : ∀ x ∈ xs, f x = g x) : sumF f xs = sumF g xs := by
  unfold sumF
  rw [List.map_congr_left h]
theorem fewL_congr {f g : Nx → Int × Int} {xs : List Nx} (h : ∀ x ∈ xs, f x = g x) : fewL f xs = fewL g xs := by
  unfold fewL
  rw [List.filter_congr fun x hx => by rw [h x hx]]
  exact List.map_congr_left fun x hx => by rw [h x (List.mem_filter.mp hx).1]
include hp in
theorem cf_fuel : ∀ (f g r : Nat) (st : List Int), r ≤ f → r ≤ g → cf nx f r st = cf nx g r st
  | _, _, 0, st, _, _ => by unfold cf; rfl
  | 0, _, r + 1, _, h, _ => by omega
  | _, 0, r + 1, _, _, h => by omega
  | f + 1, g + 1, r + 1, st, h1, h2 => by
    have e : ∀ x ∈ nxW nx (r + 1) st, cf nx f (r + 1 - x.2.1.toNat) x.2.2 = cf nx g (r + 1 - x.2.1.toNat) x.2.2 := fun x hx => by
      obtain ⟨k1, k2⟩ := nxW_mem.mp hx
      have := hp _ _ k1
      exact cf_fuel f g _ _ (by omega) (by omega)
    rw [cf, cf, sumF_congr fun x hx => by rw [e x hx], fewL_congr e]
theorem cnt_zero (st : List Int) : cnt nx 0 st = (1, 0) := by unfold cnt cf; rfl
include hp in
theorem cnt_succ {r : Nat} (hr : r ≠ 0) (st : List Int) : cnt nx r st = (sumF (fun x => (cnt nx (r - x.2.1.toNat) x.2.2).1) (nxW nx r st), min0 (fewL (fun x => cnt nx (r - x.2.1.toNat) x.2.2) (nxW nx r st))) := by
  obtain ⟨r, rfl⟩ : ∃ k, r = k + 1 := ⟨r - 1, by omega⟩
  have e : ∀ x ∈ nxW nx (r + 1) st, cf nx r (r + 1 - x.2.1.toNat) x.2.2 = cnt nx (r + 1 - x.2.1.toNat) x.2.2 := fun x hx => by
    obtain ⟨k1, k2⟩ := nxW_mem.mp hx
    have := hp _ _ k1
    exact cf_fuel hp _ _ _ _ (by omega) (Nat.le_refl _)
  show cf nx (r + 1) (r + 1) st = _
  rw [cf, sumF_congr fun x hx => by rw [e x hx], fewL_congr e]
include hp in
theorem Wf_fuel : ∀ (f g r : Nat) (st : List Int), r ≤ f → r ≤ g → Wf nx f r st = Wf nx g r st
  | 0, 0, _, _, _, _ => rfl
  | 0, g + 1, r, st, h1, _ => by
    have : nxW nx r st = [] := by
      refine List.eq_nil_iff_forall_not_mem.mpr fun x hx => ?_
      obtain ⟨k1, k2⟩ := nxW_mem.mp hx
      have := hp _ _ k1
      omega
    rw [Wf, Wf, this]; rfl
  | f + 1, 0, r, st, _, h1 => by
    have : nxW nx r st = [] := by
      refine List.eq_nil_iff_forall_not_mem.mpr fun x hx => ?_
      obtain ⟨k1, k2⟩ := nxW_mem.mp hx
      have := hp _ _ k1
      omega
    rw [Wf, Wf, this]; rfl
  | f + 1, g + 1, r, st, h1, h2 => by
    rw [Wf, Wf, List.map_congr_left fun x hx => ?_]
    obtain ⟨k1, k2⟩ := nxW_mem.mp hx
    have := hp _ _ k1
    exact Wf_fuel f g _ _ (by omega) (by omega)
include hp in
theorem Wt_eq (r : Nat) (st : List Int) : Wt nx r st = 2 + ((nxW nx r st).map fun x => Wt nx (r - x.2.1.toNat) x.2.2).sum := by
  unfold Wt
  rw [Wf_fuel hp r (r + 1) r st (Nat.le_refl _) (by omega), Wf, List.map_congr_left fun x hx => ?_]
  obtain ⟨k1, k2⟩ := nxW_mem.mp hx
  have := hp _ _ k1
  exact Wf_fuel hp _ _ _ _ (by omega) (Nat.le_refl _)
end
theorem npos {gs : List Int} : ∀ st, ∀ x ∈ nexts gs st, 1 ≤ x.2.1 := fun st x h => by
  have := of_decide_eq_true (List.mem_filter.mp h).2
  omega
abbrev dC (p : Int × Int) : D := .tup [.int p.1, .int p.2]
/-- a stand that waits on the line; whether what follows it was put there -/
abbrev Itm : Type := Bool × Nat × List Int
abbrev dIt (i : Itm) : D := .tup [.int (i.2.1 : Int), dT i.2.2]
/-- the rows so far -/
structure FI (gs : List Int) (n : Nat) (rows : List Row) : Prop where
  len : rows.length = n + 1
  ent : ∀ j, j ≤ n → ∀ p ∈ rw_ rows j, p.2 = dC (cnt (nexts gs) (n - j) p.1) ∧ St gs p.1
  nd : ∀ j, (keysOf (rw_ rows j)).Nodup
  cl : ∀ j, j ≤ n → ∀ key ∈ keysOf (rw_ rows j), ∀ x ∈ nxW (nexts gs) (n - j) key, x.2.2 ∈ keysOf (rw_ rows (j + x.2.1.toNat))
def kidsIn (gs : List Int) (n : Nat) (rows : List Row) (i : Itm) (above : List Itm) : Prop := i.2.1 < n ∧ (∀ c ∈ above, i.2.1 < c.2.1) ∧ ∀ x ∈ nxW (nexts gs) (n - i.2.1) i.2.2, x.2.2 ∈ keysOf (rw_ rows (i.2.1 + x.2.1.toNat)) ∨ ∃ c ∈ above, c.2 = (i.2.1 + x.2.1.toNat, x.2.2)
/-- from the bottom on -/
def SOk (gs : List Int) (n : Nat) (rows : List Row) : List Itm → Prop
  | [] => True
  | i :: above => i.2.1 ≤ n ∧ St gs i.2.2 ∧ (i.1 = true → kidsIn gs n rows i above) ∧ SOk gs n rows above
/-- few between the flagged -/
def LB : Nat → List Itm → Prop
  | _, [] => True
  | k, (true, _) :: r => LB 8 r
  | 0, (false, _) :: _ => False
  | k + 1, (false, _) :: r => LB k r
def flags : List Itm → Nat
  | [] => 0
  | i :: r => (if i.1 then 1 else 0) + flags r
def Mu (gs : List Int) (n : Nat) (s : List Itm) : Nat := (s.map fun i => if i.1 then 1 else Wt (nexts gs) (n - i.2.1) i.2.2).sum
section
variable {gs : List Int} {n : Nat} {rows rows' : List Row} {s : List Itm} {t : Itm}
theorem LB.len : ∀ {s : List Itm} {k : Nat}, LB k s → s.length ≤ k + 9 * flags s
  | [], _, _ => by simp
  | (true, c) :: r, k, h => by
    have := LB.len (show LB 8 r from by cases k <;> exact h)
    simp only [List.length_cons, flags, if_true]; omega
  | (false, c) :: r, 0, h => h.elim
  | (false, c) :: r, k + 1, h => by
    have := LB.len (show LB k r from h)
    simp only [List.length_cons, flags, Bool.false_eq_true, if_false]; omega
theorem LB.tr {k : Nat} {c : Nat × List Int} {r : List Itm} : LB k ((true, c) :: r) ↔ LB 8 r := by cases k <;> exact Iff.rfl
theorem LB.pop : ∀ (s : List Itm) (k : Nat), LB k (s ++ [t]) → LB k s := by
  intro s
  induction s with
  | nil => intro k _; unfold LB; trivial
  | cons a r ih =>
    obtain ⟨b, c⟩ := a
    intro k h
    cases b with
    | true => exact LB.tr.mpr (ih 8 (LB.tr.mp h))
    | false =>
      cases k with
      | zero => exact h.elim
      | succ k => exact ih k h
theorem LB.rep : ∀ (k : Nat) (ms : List (Nat × List Int)), ms.length ≤ k → LB k (ms.map fun c => (false, c))
  | _, [], _ => by unfold List.map LB; trivial
  | 0, _ :: _, h => by simp at h
  | k + 1, c :: ms, h => LB.rep k ms (by simpa using h)
theorem LB.push {c : Nat × List Int} {ms : List (Nat × List Int)} (hm : ms.length ≤ 8) : ∀ (s : List Itm) (k : Nat), LB k (s ++ [(false, c)]) → LB k (s ++ [(true, c)] ++ ms.map fun c => (false, c)) := by
  intro s
  induction s with
  | nil => intro k _; exact LB.tr.mpr (LB.rep 8 ms hm)
  | cons a r ih =>
    obtain ⟨b, d⟩ := a
    intro k h
    cases b with
    | true => exact LB.tr.mpr (ih 8 (LB.tr.mp h))
    | false =>
      cases k with
      | zero => exact h.elim
      | succ k => exact ih k h
/-- the flagged rise -/
theorem SOk.flags : ∀ {s : List Itm} {k : Nat}, SOk gs n rows s → (∀ c ∈ s, k ≤ c.2.1) → flags s + k ≤ n + 1 ∨ flags s = 0
  | [], _, _, _ => .inr rfl
  | (b, a, h) :: r, k, ho, hk => by
    obtain ⟨h1, h2, h3, h4⟩ := ho
    cases b with
    | false =>
      rcases SOk.flags (k := k) h4 fun c hc => hk c (List.mem_cons_of_mem _ hc) with z | z
      · left; simpa [M.flags] using z
      · right; simpa [M.flags] using z
    | true =>
      have q := h3 rfl
      have ha := hk _ List.mem_cons_self
      dsimp only at ha
      left
      rcases SOk.flags (k := a + 1) h4 fun c hc => q.2.1 c hc with z | z
      · simp only [M.flags, if_true]; omega
      · simp only [M.flags, if_true, z]
        have := q.1
        dsimp only at this
        omega
theorem stack_len (ho : SOk gs n rows s) (hb : LB 1 s) : s.length ≤ 9 * n + 10 := by
  have := hb.len
  rcases ho.flags (k := 0) fun _ _ => Nat.zero_le _ with z | z
  · omega
  · omega
theorem kidsIn.mono {i : Itm} {above above' : List Itm} (h : kidsIn gs n rows i above) (hk : ∀ j, ∀ k ∈ keysOf (rw_ rows j), k ∈ keysOf (rw_ rows' j)) (ha : ∀ c ∈ above, (∃ c' ∈ above', c'.2 = c.2) ∨ c.2.2 ∈ keysOf (rw_ rows' c.2.1)) (hl : ∀ c ∈ above', i.2.1 < c.2.1) : kidsIn gs n rows' i above' :=
  ⟨h.1, hl, fun x hx => by
    rcases h.2.2 x hx with z | ⟨c, hc, e⟩
    · exact .inl (hk _ _ z)
    · rcases ha c hc with ⟨c', h1, h2⟩ | z
      · exact .inr ⟨c', h1, h2.trans e⟩
      · left; rw [e] at z; exact z⟩
/-- the top one is in: it goes; the rows may have grown -/
theorem SOk.pop (hk : ∀ j, ∀ k ∈ keysOf (rw_ rows j), k ∈ keysOf (rw_ rows' j)) (ht : t.2.2 ∈ keysOf (rw_ rows' t.2.1)) : ∀ {s : List Itm}, SOk gs n rows (s ++ [t]) → SOk gs n rows' s
  | [], _ => by unfold SOk; trivial
  | i :: r, h => by
    obtain ⟨h1, h2, h3, h4⟩ := h
    refine ⟨h1, h2, fun hf => (h3 hf).mono hk (fun c hc => ?_) fun c hc => (h3 hf).2.1 c (List.mem_append_left _ hc), SOk.pop hk ht h4⟩
    rcases List.mem_append.mp hc with z | z
    · exact .inl ⟨c, z, rfl⟩
    · rw [List.mem_singleton.mp z]; exact .inr ht
/-- what follows the top one is put on the line -/
theorem SOk.push {c : Nat × List Int} {ms : List (Nat × List Int)} (hc : c.1 < n) (hm : ∀ m ∈ ms, c.1 < m.1 ∧ m.1 ≤ n ∧ St gs m.2) (hk : ∀ x ∈ nxW (nexts gs) (n - c.1) c.2, x.2.2 ∈ keysOf (rw_ rows (c.1 + x.2.1.toNat)) ∨ (c.1 + x.2.1.toNat, x.2.2) ∈ ms) : ∀ {s : List Itm}, SOk gs n rows (s ++ [(false, c)]) → SOk gs n rows (s ++ [(true, c)] ++ ms.map fun c => (false, c))
  | [], h => by
    obtain ⟨h1, h2, h3, h4⟩ := h
    refine ⟨h1, h2, fun _ => ⟨hc, fun d hd => ?_, fun x hx => ?_⟩, ?_⟩
    · obtain ⟨m, hm', rfl⟩ := List.mem_map.mp hd
      exact (hm m hm').1
    · rcases hk x hx with z | z
      · exact .inl z
      · exact .inr ⟨_, List.mem_map.mpr ⟨_, z, rfl⟩, rfl⟩
    · clear hk h1 h2 h3 h4
      have : ∀ ms : List (Nat × List Int), (∀ m ∈ ms, c.1 < m.1 ∧ m.1 ≤ n ∧ St gs m.2) → SOk gs n rows (ms.map fun c => (false, c)) := by
        intro ms
        induction ms with
        | nil => intro _; unfold List.map SOk; trivial
        | cons m ms ih => exact fun h => ⟨(h m List.mem_cons_self).2.1, (h m List.mem_cons_self).2.2, (fun z => by cases z), ih fun m' h' => h m' (List.mem_cons_of_mem _ h')⟩
      exact this ms hm
  | i :: r, h => by
    obtain ⟨h1, h2, h3, h4⟩ := h
    refine ⟨h1, h2, fun hf => (h3 hf).mono (fun _ _ z => z) (fun d hd => .inl ?_) fun d hd => ?_, SOk.push hc hm hk h4⟩
    · rcases List.mem_append.mp hd with z | z
      · exact ⟨d, List.mem_append_left _ (List.mem_append_left _ z), rfl⟩
      · exact ⟨(true, c), List.mem_append_left _ (List.mem_append_right _ List.mem_cons_self), by rw [List.mem_singleton.mp z]⟩
    · have q := (h3 hf).2.1
      have qc := q _ (List.mem_append_right _ (List.mem_singleton.mpr rfl))
      dsimp only at qc
      rcases List.mem_append.mp hd with z | z
      · rcases List.mem_append.mp z with z | z
        · exact q d (List.mem_append_left _ z)
        · rw [List.mem_singleton.mp z]; exact qc
      · obtain ⟨m, hm', rfl⟩ := List.mem_map.mp z
        have := (hm m hm').1
        dsimp only
        omega
theorem SOk.top : ∀ {s : List Itm}, SOk gs n rows (s ++ [t]) → t.2.1 ≤ n ∧ St gs t.2.2 ∧ (t.1 = true → kidsIn gs n rows t [])
  | [], h => ⟨h.1, h.2.1, h.2.2.1⟩
  | _ :: r, h => SOk.top (s := r) h.2.2.2
theorem Mu_app (a b : List Itm) : Mu gs n (a ++ b) = Mu gs n a + Mu gs n b := by unfold Mu; rw [List.map_append, List.sum_append]
theorem Mu_pos (t : Itm) : 0 < Mu gs n [t] := by
  obtain ⟨b, c⟩ := t
  unfold Mu
  cases b with
  | true => simp
  | false =>
    simp only [List.map_cons, List.map_nil, List.sum_cons, List.sum_nil, Bool.false_eq_true, if_false, Nat.add_zero]
    unfold Wt
    cases n - c.1 with
    | zero => rw [Wf]; omega
    | succ k => rw [Wf]; omega
end
end M

set_option Elab.async false
set_option linter.all false
set_option maxRecDepth 100000
/-! M21: all plans, in order. -/
namespace M
open PySem L2 DL
abbrev Pln : Type := List (List Int)
def aP (nx : List Int → List Nx) : Nat → Nat → List Int → List Pln
  | _, 0, _ => [[]]
  | 0, _ + 1, _ => []
  | f + 1, r + 1, st => (nxW nx (r + 1) st).flatMap fun x => (aP nx f (r + 1 - x.2.1.toNat) x.2.2).map (x.1 :: ·)
/-- all plans that lead on to a fall r ticks later -/
def allP (nx : List Int → List Nx) (r : Nat) (st : List Int) : List Pln := aP nx r r st
abbrev nextP (nx : List Int → List Nx) (r : Nat) (x : Nx) : List Pln := (allP nx (r - x.2.1.toNat) x.2.2).map (x.1 :: ·)
def tot (p : Pln) : Int := sumF (fun d : List Int => (d.length : Int)) p
section
variable {nx : List Int → List Nx} (hp : ∀ st, ∀ x ∈ nx st, 1 ≤ x.2.1)
theorem flatMap_congr' {α β : Type} {f g : α → List β} : ∀ {xs : List α}, (∀ x ∈ xs, f x = g x) → xs.flatMap f = xs.flatMap g
  | [], _ => rfl
  | x :: xs, h => by
    rw [List.flatMap_cons, List.flatMap_cons, h x List.mem_cons_self, flatMap_congr' fun y hy => h y (List.mem_cons_of_mem _ hy)]
include hp in
theorem aP_fuel : ∀ (f g r : Nat) (st : List Int), r ≤ f → r ≤ g → aP nx f r st = aP nx g r st
  | _, _, 0, st, _, _ => by unfold aP; rfl
  | 0, _, r + 1, _, h, _ => by omega
  | _, 0, r + 1, _, _, h => by omega
  | f + 1, g + 1, r + 1, st, h1, h2 => by
    rw [aP, aP]
    refine flatMap_congr' fun x hx => ?_
    obtain ⟨k1, k2⟩ := nxW_mem.mp hx
    have := hp _ _ k1
    rw [aP_fuel f g _ _ (by omega) (by omega)]
theorem allP_zero (st : List Int) : allP nx 0 st = [[]] := by unfold allP aP; rfl
include hp in
theorem allP_succ {r : Nat} (hr : r ≠ 0) (st : List Int) : allP nx r st = (nxW nx r st).flatMap (nextP nx r) := by
  obtain ⟨r, rfl⟩ : ∃ k, r = k + 1 := ⟨r - 1, by omega⟩
  show aP nx (r + 1) (r + 1) st = _
  rw [aP]
  refine flatMap_congr' fun x hx => ?_
  obtain ⟨k1, k2⟩ := nxW_mem.mp hx
  have := hp _ _ k1
  show _ = (allP nx (r + 1 - x.2.1.toNat) x.2.2).map _
  rw [aP_fuel hp _ _ _ _ (show r + 1 - x.2.1.toNat ≤ r by omega) (Nat.le_refl _)]; rfl
theorem len_flatMap {α β : Type} (f : α → List β) : ∀ xs : List α, ((xs.flatMap f).length : Int) = sumF (fun x => ((f x).length : Int)) xs
  | [] => rfl
  | x :: xs => by
    rw [List.flatMap_cons, List.length_append]
    have := len_flatMap f xs
    unfold sumF at this ⊢
    rw [List.map_cons, List.sum_cons, ← this]; omega
theorem min0_iff {ns : List Int} {m : Int} (h1 : m ∈ ns) (h2 : ∀ y ∈ ns, m ≤ y) : min0 ns = m := by
  unfold min0
  rw [if_neg (fun z => by rw [z] at h1; cases h1)]
  exact (minI_eq h1 h2).symm
theorem min0_mem {ns : List Int} (h : ns ≠ []) : min0 ns ∈ ns ∧ ∀ y ∈ ns, min0 ns ≤ y := by
  unfold min0
  rw [if_neg h]
  exact minI_spec h
theorem tot_cons (d : List Int) (p : Pln) : tot (d :: p) = (d.length : Int) + tot p := by unfold tot sumF; rw [List.map_cons, List.sum_cons]
include hp in
/-- the counts count the plans -/
theorem cnt_all : ∀ (r : Nat) (st : List Int), (cnt nx r st).1 = ((allP nx r st).length : Int) ∧ (cnt nx r st).2 = min0 ((allP nx r st).map tot) := by
  intro r
  induction r using Nat.strongRecOn with
  | _ r ih =>
    intro st
    by_cases hr : r = 0
    · subst hr
      rw [cnt_zero, allP_zero]
      exact ⟨rfl, rfl⟩
    · have ih' : ∀ x ∈ nxW nx r st, (cnt nx (r - x.2.1.toNat) x.2.2).1 = ((allP nx (r - x.2.1.toNat) x.2.2).length : Int) ∧ (cnt nx (r - x.2.1.toNat) x.2.2).2 = min0 ((allP nx (r - x.2.1.toNat) x.2.2).map tot) := fun x hx => by
        obtain ⟨k1, k2⟩ := nxW_mem.mp hx
        have := hp _ _ k1
        exact ih _ (by omega) _
      rw [cnt_succ hp hr, allP_succ hp hr]
      constructor
      · rw [len_flatMap]
        refine sumF_congr fun x hx => ?_
        rw [(ih' x hx).1, List.length_map]
      · have mem : ∀ y : Int, y ∈ (((nxW nx r st).flatMap (nextP nx r)).map tot) ↔ ∃ x ∈ nxW nx r st, ∃ p ∈ allP nx (r - x.2.1.toNat) x.2.2, y = (x.1.length : Int) + tot p := fun y => by
          rw [List.mem_map]
          constructor
          · rintro ⟨q, hq, rfl⟩
            obtain ⟨x, hx, hq⟩ := List.mem_flatMap.mp hq
            obtain ⟨p, hp', rfl⟩ := List.mem_map.mp hq
            exact ⟨x, hx, p, hp', tot_cons _ _⟩
          · rintro ⟨x, hx, p, hp', rfl⟩
            exact ⟨x.1 :: p, List.mem_flatMap.mpr ⟨x, hx, List.mem_map.mpr ⟨p, hp', rfl⟩⟩, tot_cons _ _⟩
        have memL : ∀ y : Int, y ∈ fewL (fun x => cnt nx (r - x.2.1.toNat) x.2.2) (nxW nx r st) ↔ ∃ x ∈ nxW nx r st, allP nx (r - x.2.1.toNat) x.2.2 ≠ [] ∧ y = (x.1.length : Int) + min0 ((allP nx (r - x.2.1.toNat) x.2.2).map tot) := fun y => by
          unfold fewL
          rw [List.mem_map]
          constructor
          · rintro ⟨x, hx, rfl⟩
            obtain ⟨hx, hb⟩ := List.mem_filter.mp hx
            have hb := of_decide_eq_true hb
            dsimp only at hb
            rw [(ih' x hx).1] at hb
            exact ⟨x, hx, fun z => by rw [z] at hb; simp at hb, by rw [(ih' x hx).2]⟩
          · rintro ⟨x, hx, hne, rfl⟩
            refine ⟨x, List.mem_filter.mpr ⟨hx, decide_eq_true ?_⟩, by rw [(ih' x hx).2]⟩
            dsimp only
            rw [(ih' x hx).1]
            have := List.length_pos_iff.mpr hne
            omega
        dsimp only
        by_cases hne : ((nxW nx r st).flatMap (nextP nx r)).map tot = []
        · have : fewL (fun x => cnt nx (r - x.2.1.toNat) x.2.2) (nxW nx r st) = [] := List.eq_nil_iff_forall_not_mem.mpr fun y hy => by
            obtain ⟨x, hx, hn, rfl⟩ := (memL y).mp hy
            obtain ⟨p, hp'⟩ := List.exists_mem_of_ne_nil _ hn
            have := (mem _).mpr ⟨x, hx, p, hp', rfl⟩
            rw [hne] at this; cases this
          rw [this, hne]
        · obtain ⟨m1, m2⟩ := min0_mem hne
          obtain ⟨x, hx, p, hp', e⟩ := (mem _).mp m1
          have hn : allP nx (r - x.2.1.toNat) x.2.2 ≠ [] := fun z => by rw [z] at hp'; cases hp'
          have hn' : ((allP nx (r - x.2.1.toNat) x.2.2).map tot) ≠ [] := by simpa using hn
          obtain ⟨k1, k2⟩ := min0_mem hn'
          refine min0_iff ((memL _).mpr ⟨x, hx, hn, ?_⟩) fun y hy => ?_
          · have a1 := k2 _ (List.mem_map.mpr ⟨p, hp', rfl⟩)
            obtain ⟨p2, hp2, e2⟩ := List.mem_map.mp k1
            have a2 := m2 _ ((mem _).mpr ⟨x, hx, p2, hp2, rfl⟩)
            rw [e2] at a2
            omega
          · obtain ⟨x', hx', hn2, rfl⟩ := (memL y).mp hy
            have hn3 : ((allP nx (r - x'.2.1.toNat) x'.2.2).map tot) ≠ [] := by simpa using hn2
            obtain ⟨p2, hp2, e2⟩ := List.mem_map.mp (min0_mem hn3).1
            rw [← e2]
            exact m2 _ ((mem _).mpr ⟨x', hx', p2, hp2, rfl⟩)
end
end M

set_option Elab.async false
set_option linter.all false
set_option maxRecDepth 100000
set_option maxHeartbeats 4000000
/-! DL33: a new list of new lists ([list(x) for x in xs]), hidden; its rows changed; given up as data. -/
namespace DL
open PySem L2
theorem rg_in {m : Nat} {O : List Addr} {H0 H : Hp} {a : Addr} {o : HO} (hm : m ≤ 2) (h1 : a ∉ O) (h2 : H0 a = none) (h : H a = some o) (k : ntb o) : rg m O H0 H0 H a = some o := by
  match m, hm with
  | 0, _ => exact nt_at h k
  | 1, _ => exact reg_has h1 rfl h k
  | 2, _ => exact reg_has h1 h2 h k
theorem rg_out {m : Nat} {O : List Addr} {q : Addr} {H0 H : Hp} (hm : 1 ≤ m) : Ex (wo (rg m O H0 H0 H) q) (rg m (q :: O) H0 H0 H) := fun a o z => by
  unfold wo at z
  split at z
  · cases z
  · rename_i hne
    have up : ∀ {B : Hp}, reg O B H a = some o → reg (q :: O) B H a = some o := fun {B} z => by
      obtain ⟨k1, k2, k3, k4⟩ := reg_some4 z
      refine reg_has (fun w => ?_) k2 k3 k4
      rcases List.mem_cons.mp w with e | e
      · exact hne e
      · exact k1 e
    match m, hm with
    | 1, _ => exact up z
    | 2, _ => exact up z
    | (_ + 3), _ => exact up z
section
variable {X : Cx} {Z : Fr} {Γ : List SV} {m mt i j k : Nat} {tg iter elt e a b o : Expr} {scope : Scope} {own : List (Str × Nat)} {pos ap cp : Pos} {rest : List Stmt} {E : Ends} {σ : L2.St} {H H' : Hp} {ds : List Addr} {l : Addr} {rows : List LRow} {row : LRow} {d : D}
/-- a new list of new lists -/
def tGl (Z : Fr) (Γ : List SV) (mt : Nat) (xs : List (List D)) : TE := fun σ H Q => Holds Z σ H Γ ∧ ∀ l ds rows H', Ex H H' → (∀ a ∈ l :: ds, H a = none ∧ H' a ≠ none) → rows.map (·.2) = xs → TlAt (rg mt ((l :: ds) ++ Z.O σ Γ) Z.h0 Z.h0 H') (only (l :: ds) H') l ds rows → Q (.ref l) H'
/-- one turn: a new list -/
def CpTurn {α : Type} (X : Cx) (scope : Scope) (Z : Fr) (Γ : List SV) (vs : List Nat) (m : Nat) (p : Pat) (enc : α → D) (elt : Expr) (mt : Nat) (f : α → List D) (ys : List α) : Prop :=
  ∀ (i : Nat) (y : α) (Z' : Fr), ys[i]? = some y → Z'.h0 = Z.h0 ∧ Z'.gs = Z.gs → ∃ Γ1, bindP (min m 2) p (enc y) (wipeG Γ vs) = some Γ1 ∧ ∀ (s : Shared) (H' : Hp) (C : Addr) (cl : List (Str × Addr)) (fp : List Addr), PE (blkX X scope s H' C cl fp) elt (tN Z' Γ1 mt (f y))
theorem imp_copies {α : Type} {enc : α → D} {ys : List α} {f : α → List D} {vs : List Nat} {p : Pat} (hm : 1 ≤ m) (hm1 : 1 ≤ mt) (hm2 : mt ≤ 2) (hz : noz Γ = true) (hno : nown Γ vs = true) (hsl : slotsIn p vs = true) (hlen : ys.length ≤ 1000000)
    (turn : CpTurn X scope Z Γ vs m p enc elt mt f ys) {Q : VK} (h : tGl Z Γ mt (ys.map f) σ H Q) :
    tLc (tI Z Γ m (ys.map enc)) (gP X.K p) (fun _ H Q => Q true H) (tEs X scope elt) vs σ H Q := by
  refine ⟨h.1, fun J H1 e1 y D hD => ?_⟩
  generalize hB : rg m (Z.O σ Γ) Z.h0 H H1 = B at y
  have h1 := h.1.grow e1
  have hfr : Holds { Z with fs := B :: Z.fs } σ H1 Γ := h1.frame (by rw [← hB]; exact rg_le) (by rw [← hB]; exact rg_off hm) (by rw [← hB]; exact fun _ _ => rg_nt)
  have hhd : Holds { Z with fs := B :: Z.fs, ex := D :: Z.ex } σ (upd H1 D (.lst [])) Γ := hfr.hide hD
  have hw := hhd.wipe vs
  have eO : owns (wipe σ vs) (wipeG Γ vs) = owns σ Γ := owns_wipe vs hno
  have hDg : ∀ g ∈ Z.gs, D ∉ g.as := fun g hg z => (h1.exd D ((h1.gok g hg).1 D z)).1 hD
  have hHD : H D = none := Ex.free e1 hD
  refine ⟨fun i n Hi => n = ys.length - i ∧ i ≤ ys.length ∧ Ex H Hi ∧ ∃ (ds : List Addr) (rws : List LRow), ds.length = i ∧ rws.length = i ∧ (D :: ds).Nodup ∧ (∀ a ∈ D :: ds, H a = none ∧ Hi a ≠ none) ∧ Hi D = some (.lst (ds.map V.ref)) ∧
      Holds { Z with fs := B :: Z.fs, ex := ds.reverse ++ (D :: Z.ex) } (wipe σ vs) Hi (wipeG Γ vs) ∧
      (∀ (k : Nat) (d : Addr) (row : LRow), ds[k]? = some d → rws[k]? = some row → Hi d = some (.lst row.1) ∧ RepL (rg mt ((ds.reverse ++ (D :: Z.ex)) ++ owns σ Γ) Z.h0 Z.h0 Hi) row.1 row.2) ∧ rws.map (·.2) = (ys.take i).map f,
    ⟨ys.length, by simp, Nat.zero_le _, e1.trans (Ex.new hD), [], [], rfl, rfl, by simp, fun a ha => by rw [List.mem_singleton.mp ha]; exact ⟨hHD, by rw [upd_same]; simp⟩, upd_same, hw, fun k d row hd => by (cases hd), rfl⟩, ?_⟩
  rintro i n Hi ⟨rfl, hi, hx, ds, rws, f1, f2, f3, f4, f5, p', f6, f7⟩
  have hst : Ex B Hi := (p'.ext B (.inr List.mem_cons_self)).1
  obtain ⟨y1, y2⟩ := y i Hi hst
  by_cases hlt : i < ys.length
  · have gi : ys[i]? = some ys[i] := List.getElem?_eq_getElem hlt
    obtain ⟨hgo, hy⟩ := y1 (enc ys[i]) (by rw [List.getElem?_map, gi]; rfl)
    refine .inr ⟨hgo, fun Hj => i + 1 ≤ ys.length ∧ Ex H Hj ∧ ∃ (ds : List Addr) (rws : List LRow), ds.length = i + 1 ∧ rws.length = i + 1 ∧ (D :: ds).Nodup ∧ (∀ a ∈ D :: ds, H a = none ∧ Hj a ≠ none) ∧ Hj D = some (.lst (ds.map V.ref)) ∧
      Holds { Z with fs := B :: Z.fs, ex := ds.reverse ++ (D :: Z.ex) } (wipe σ vs) Hj (wipeG Γ vs) ∧
      (∀ (k : Nat) (d : Addr) (row : LRow), ds[k]? = some d → rws[k]? = some row → Hj d = some (.lst row.1) ∧ RepL (rg mt ((ds.reverse ++ (D :: Z.ex)) ++ owns σ Γ) Z.h0 Z.h0 Hj) row.1 row.2) ∧ rws.map (·.2) = (ys.take (i + 1)).map f, fun Hj q => ⟨ys.length - (i + 1), by omega, rfl, q⟩, fun x H2 q => ?_⟩
    obtain ⟨e2, r⟩ := hy x H2 q
    have p2 := p'.grow e2
    obtain ⟨Γ1, hb, te⟩ := turn i ys[i] { Z with fs := B :: Z.fs, ex := ds.reverse ++ (D :: Z.ex) } gi ⟨rfl, rfl⟩
    have hBO := (p2.ext B (.inr List.mem_cons_self)).2
    have rr := r (rg (min m 2) (({ Z with fs := B :: Z.fs, ex := ds.reverse ++ (D :: Z.ex) } : Fr).O (wipe σ vs) (wipeG Γ vs)) Z.h0 Z.h0 H2) (reg_later hm hB.symm h.1.h0x (hst.trans e2) hBO) (rg_fresh p'.dom p'.h0x p'.h0x)
    refine gP_kept p2 rr hb hsl (nown_wipe hno vs) fun σ1 h1' k1 => ⟨by rw [k1.wp, wipe_wipe], ?_⟩
    refine iteT fun s0 H0' C cl fp => ⟨_, te s0 H0' C cl fp, h1', fun q vs' H4 e4 n4 l4 r4 => ?_⟩
    have e24 := e2.trans e4
    have hqi : Hi q = none := Ex.free e2 n4
    have hqD : D ≠ q := fun z => by rw [z] at f5; rw [f5] at hqi; cases hqi
    have hqds : q ∉ ds := fun z => (f4 q (List.mem_cons_of_mem _ z)).2 hqi
    have hHq : H q = none := Ex.free hx hqi
    have hh0q : Z.h0 q = none := Ex.free h.1.h0x hHq
    have p4 := p2.hide' (p := q) e4 n4 (by rw [l4]; simp)
    have hO1 : ({ Z with fs := B :: Z.fs, ex := ds.reverse ++ (D :: Z.ex) } : Fr).O σ1 Γ1 = (ds.reverse ++ (D :: Z.ex)) ++ owns σ Γ := by
      show (ds.reverse ++ (D :: Z.ex)) ++ owns σ1 Γ1 = _
      rw [k1.ow, eO]
    rw [hO1, rg_same hm2] at r4
    have nqO : q ∉ (ds.reverse ++ (D :: Z.ex)) ++ owns σ Γ := fun z => by
      have := p2.dom q (show q ∈ (ds.reverse ++ (D :: Z.ex)) ++ owns (wipe σ vs) (wipeG Γ vs) by rw [eO]; exact z)
      exact this n4
    have r4' : RepL (rg mt (q :: ((ds.reverse ++ (D :: Z.ex)) ++ owns σ Γ)) Z.h0 Z.h0 H4) vs' (f ys[i]) :=
      (RepL.wo (.lst (rg_in hm2 nqO hh0q l4 trivial) r4) r4 (lst_size _)).mono (rg_out hm1)
    have hexr : ({ ({ Z with fs := B :: Z.fs, ex := ds.reverse ++ (D :: Z.ex) } : Fr) with ex := q :: (ds.reverse ++ (D :: Z.ex)) } : Fr) = { Z with fs := B :: Z.fs, ex := (ds ++ [q]).reverse ++ (D :: Z.ex) } := by rw [List.reverse_append]; rfl
    have hDin : D ∈ q :: ((ds.reverse ++ (D :: Z.ex)) ++ owns σ Γ) := List.mem_cons_of_mem _ (List.mem_append_left _ (List.mem_append_right _ List.mem_cons_self))
    have eOO : (((ds ++ [q]).reverse ++ (D :: Z.ex)) ++ owns σ Γ) = q :: ((ds.reverse ++ (D :: Z.ex)) ++ owns σ Γ) := by rw [List.reverse_append]; rfl
    refine ⟨ds.map V.ref, e24 _ _ f5, ?_, hlt, fun a u z => ?_, ds ++ [q], rws ++ [(vs', f ys[i])], by simp [f1], by simp [f2], ?_, fun a ha => ?_, ?_, ?_, fun k d row hd hr => ?_, ?_⟩
    · rw [List.length_map, f1]
      exact Nat.lt_of_lt_of_le hlt (Nat.le_trans hlen (by decide))
    · rw [upd_ne (ne_of_none z hHD)]
      exact e24 _ _ (hx _ _ z)
    · rw [← List.cons_append]
      refine List.nodup_append.mpr ⟨f3, by simp, fun a ha b hb' z => ?_⟩
      rw [List.mem_singleton.mp hb'] at z
      rcases List.mem_cons.mp ha with w | w
      · exact hqD (by rw [← w, z])
      · exact hqds (by rw [← z]; exact w)
    · have hn : a = D ∨ upd H4 D (.lst (ds.map V.ref ++ [.ref q])) a = H4 a := by
        by_cases z : a = D
        · exact .inl z
        · exact .inr (upd_ne z)
      rw [← List.cons_append] at ha
      rcases List.mem_append.mp ha with w | w
      · refine ⟨(f4 a w).1, ?_⟩
        rcases hn with z | z
        · rw [z, upd_same]; simp
        · rw [z]; exact fun y => (f4 a w).2 (Ex.free e24 y)
      · rw [List.mem_singleton.mp w]
        refine ⟨hHq, ?_⟩
        rw [upd_ne hqD.symm, l4]; simp
    · rw [upd_same, List.map_append]; rfl
    · have p5 := p4.turnEx (p := D) (o := .lst (ds.map V.ref ++ [.ref q])) (List.mem_cons_of_mem _ (List.mem_append_right _ List.mem_cons_self)) (noz_wipe hz vs) hDg
      rw [hexr] at p5
      exact p5
    · rw [eOO]
      have up := rg_mut (k := mt) (H0 := Z.h0) (Hs := Z.h0) (H := H4) (o' := .lst (ds.map V.ref ++ [.ref q])) hm1 hDin
      by_cases hk : k < ds.length
      · rw [List.getElem?_append_left hk] at hd
        rw [List.getElem?_append_left (by omega)] at hr
        obtain ⟨g1, g2⟩ := f6 k d row hd hr
        have hdD : d ≠ D := fun z => (List.nodup_cons.mp f3).1 (by rw [← z]; exact List.mem_of_getElem? hd)
        refine ⟨by rw [upd_ne hdD]; exact e24 _ _ g1, (g2.mono (rg_ex (fun a ha => ?_) (Ex.refl _) e24)).mono up⟩
        rcases List.mem_cons.mp ha with z | z
        · exact .inr (by rw [z]; exact hqi)
        · exact .inl z
      · rw [List.getElem?_append_right (by omega)] at hd
        rw [List.getElem?_append_right (by omega)] at hr
        have hk0 : k = ds.length := by
          have := (List.getElem?_eq_some_iff.mp hd).1
          simp at this; omega
        rw [hk0, Nat.sub_self] at hd
        have hk1 : k - rws.length = 0 := by omega
        rw [hk1] at hr
        cases hd
        cases hr
        exact ⟨by rw [upd_ne hqD.symm]; exact l4, r4'.mono up⟩
    · rw [List.map_append, f7, take_succ_get gi, List.map_append]; rfl
  · have e : i = ys.length := by omega
    subst e
    refine .inl ⟨y2 (by rw [List.length_map]; exact Nat.le_refl _), h.2 D ds rws Hi hx f4 (by rw [f7, List.take_length]) ⟨?_, by rw [f1, f2], f3, fun k d row hd hr => ?_⟩⟩
    · rw [only_at List.mem_cons_self]; exact f5
    · obtain ⟨g1, g2⟩ := f6 k d row hd hr
      refine ⟨by rw [only_at (List.mem_cons_of_mem _ (List.mem_of_getElem? hd))]; exact g1, g2.mono (rg_ex (fun a ha => .inl ?_) (Ex.refl _) (Ex.refl _))⟩
      rcases List.mem_append.mp (show a ∈ (D :: ds) ++ (Z.ex ++ owns σ Γ) from ha) with z | z
      · rcases List.mem_cons.mp z with w | w
        · rw [w]; exact List.mem_append_left _ (List.mem_append_right _ List.mem_cons_self)
        · exact List.mem_append_left _ (List.mem_append_left _ (List.mem_reverse.mpr w))
      · rcases List.mem_append.mp z with w | w
        · exact List.mem_append_left _ (List.mem_append_right _ (List.mem_cons_of_mem _ w))
        · exact List.mem_append_right _ w
/-- [a new list for target in iter] -/
theorem e_copies {α : Type} {enc : α → D} {ys : List α} {f : α → List D} (own : List (Str × Nat)) (p : Pat) (hi : PI X tg iter (tI Z Γ m (ys.map enc))) (hg : ∀ (s : Shared) (H' : Hp) (C : Addr) (cl : List (Str × Addr)) (fp : List Addr), PG (blkX X scope s H' C cl fp) tg (gP X.K p))
    (turn : CpTurn X scope Z Γ (own.map (·.2)) m p enc elt mt f ys) (hlen : ys.length ≤ 1000000) (hN : X.N.Nodup) (ok : BlkOk X.N X.env.scope scope own) (hc : X.calm = true := by rfl) (hm : 1 ≤ m := by decide) (hm1 : 1 ≤ mt := by decide) (hm2 : mt ≤ 2 := by decide)
    (hz : noz Γ = true := by rfl) (hno : nown Γ (own.map (·.2)) = true := by rfl) (hsl : slotsIn p (own.map (·.2)) = true := by rfl) (hs : ∀ x, foldedSetIterable iter X.env x = pure x := by intro _; rfl) :
    PE X (.ListComp elt [⟨tg, iter, [], 0⟩] scope pos) (tGl Z Γ mt (ys.map f)) :=
  pe_imp (pe_lc (tt := tYes) hc hN hi ok hg (fun s H C cl fp => pts_nil) (fun s H C cl fp => tEs_ok s H C cl fp) hs) fun σ H Q h => imp_copies hm hm1 hm2 hz hno hsl hlen turn h
/-- .. told of -/
theorem Holds.addGl (h : Holds Z σ H Γ) (e : Ex H H') (hn : ∀ a ∈ l :: ds, H a = none ∧ H' a ≠ none) (hm1 : 1 ≤ mt) (t : TlAt (rg mt ((l :: ds) ++ Z.O σ Γ) Z.h0 Z.h0 H') (only (l :: ds) H') l ds rows) : Holds { Z with ex := (l :: ds) ++ Z.ex, gs := Z.gs ++ [gTl mt l ds rows] } σ H' Γ :=
  h.addG (g := gTl mt l ds rows) e hn hm1 t
/-- x = a new list of new lists -/
theorem w_setGl {xs : List (List D)} (i : Nat) {x : Str} {p : Pos} (he : PE X e (tGl Z Γ mt xs)) (h : Holds Z σ H Γ)
    (k : ∀ l ds rows σ' H', Ex H H' → rows.map (·.2) = xs → Holds { Z with ex := (l :: ds) ++ Z.ex, gs := Z.gs ++ [gTl mt l ds rows] } σ' H' (Γ.set i (.raw (.ref l))) → wp X rest E σ' H') (hm1 : 1 ≤ mt := by decide)
    (hN : X.N.Nodup) (hi : X.N[i]? = some x := by rfl) (hx : Loc X.env.scope x := by first | exact .inl rfl | exact .inr rfl) (hf : X.fn x = true ∨ X.env.scope.names.lookup x = some .local := by first | exact .inl rfl | exact .inr rfl)
    (hs : swapsWith e (some (.Name x p)) pos.line X.env = pure false := by rfl) : wp X (.Assign [.Name x p] e pos :: rest) E σ H :=
  wp_cons (ps_asg he (pg_name hN hi hx hf) hs) ⟨h, fun l ds rows H' ex hn hr t => k l ds rows _ H' ex hr ((h.addGl ex hn hm1 t).raw i (.ref l))⟩
/-- .. by a comprehension whose line swaps -/
theorem w_lcGl {α : Type} {enc : α → D} {ys : List α} {f : α → List D} (i : Nat) {x : Str} {py : Pos} (own : List (Str × Nat)) (p : Pat) (hi : PI X tg iter (tI Z Γ m (ys.map enc))) (hg : ∀ (s : Shared) (H' : Hp) (C : Addr) (cl : List (Str × Addr)) (fp : List Addr), PG (blkX X scope s H' C cl fp) tg (gP X.K p))
    (turn : CpTurn X scope Z Γ (own.map (·.2)) m p enc elt mt f ys) (h : Holds Z σ H Γ) (k : ∀ l ds rows σ' H', Ex H H' → rows.map (·.2) = ys.map f → Holds { Z with ex := (l :: ds) ++ Z.ex, gs := Z.gs ++ [gTl mt l ds rows] } σ' H' (Γ.set i (.raw (.ref l))) → wp X rest E σ' H') (hlen : ys.length ≤ 1000000) (hN : X.N.Nodup) (ok : BlkOk X.N X.env.scope scope own)
    (hsw : swapsWith (.ListComp elt [⟨tg, iter, [], 0⟩] scope pos) (some (.Name x py)) pos.line X.env = pure true) {spos : Pos} (hsp : spos.line = pos.line := by rfl) (hi' : X.N[i]? = some x := by rfl) (hl : X.env.scope.names.lookup x = some .local := by rfl) (hc : X.calm = true := by rfl) (hm : 1 ≤ m := by decide) (hm1 : 1 ≤ mt := by decide) (hm2 : mt ≤ 2 := by decide)
    (hz : noz Γ = true := by rfl) (hno : nown Γ (own.map (·.2)) = true := by rfl) (hsl : slotsIn p (own.map (·.2)) = true := by rfl) (hs : ∀ x, foldedSetIterable iter X.env x = pure x := by intro _; rfl) :
    wp X (.Assign [.Name x py] (.ListComp elt [⟨tg, iter, [], 0⟩] scope pos) spos :: rest) E σ H :=
  wp_cons (ps_setLc (te := tEs X scope elt) (tt := fun _ H Q => Q true H) hc hN hi' hl (by rw [hsp]; exact hsw) hi ok hg (fun s H C cl fp => pts_nil) (fun s H C cl fp => tEs_ok s H C cl fp) hs)
    (imp_copies (Q := fun v H' => wp X rest E (σ.set i (some v)) H') hm hm1 hm2 hz hno hsl hlen turn ⟨h, fun l ds rows H' ex hn hr t => k l ds rows _ H' ex hr ((h.addGl ex hn hm1 t).raw i (.ref l))⟩)
theorem n_eq {xs ys : List D} (h : PE X e (tN Z Γ m xs)) (hd : xs = ys) : PE X e (tN Z Γ m ys) := hd ▸ h
theorem n_w {m' : Nat} {xs : List D} (h : PE X e (tN Z Γ m' xs)) (hm : m ≤ m') : PE X e (tN Z Γ m xs) := pe_imp h fun σ H Q q => ⟨q.1, fun l vs H' ex n1 n2 r => q.2 l vs H' ex n1 n2 (r.mono (rg_down hm q.1.h0x))⟩
/-- xs + ys, a new list -/
theorem n_cat {ma mb : Nat} {xs ys : List D} (ha : PE X a (tD Z Γ ma (.lst xs))) (hb : PE X b (tD Z Γ mb (.lst ys))) (hl : xs.length + ys.length ≤ sizeLine) : PE X (.BinOp a .Add b pos) (tN Z Γ (min ma mb) (xs ++ ys)) :=
  pe_imp (pe_op op_cat ha hb) fun σ H Q h => two (fun Q q => q) (fun H Q q => q) h.1 fun x y H' ex r1 r2 => by
    cases r1 with
    | lst h1 k1 =>
      cases r2 with
      | lst h2 k2 =>
        refine ⟨_, _, _, _, rfl, rfl, rg_le _ _ h1, rg_le _ _ h2, by rw [k1.length, k2.length]; exact hl, fun p hp => h.2 p _ _ (ex.trans (Ex.new hp)) (Ex.free ex hp) upd_same (RepL.append ?_ ?_)⟩
        · exact (k1.mono (rg_down (Nat.min_le_left _ _) h.1.h0x)).mono (rg_ex (fun _ z => .inl z) (Ex.refl _) (Ex.new hp))
        · exact (k2.mono (rg_down (Nat.min_le_right _ _) h.1.h0x)).mono (rg_ex (fun _ z => .inl z) (Ex.refl _) (Ex.new hp))
/-- one row of hidden lists is another one -/
theorem Holds.rowTl {vs' : List V} {ds' : List D} (h : Holds Z σ H Γ) (hj : Z.gs[j]? = some (gTl mt l ds rows)) (hr : rows[k]? = some row) (r : RepL (rg mt (Z.O σ Γ) Z.h0 Z.h0 H) vs' ds') (hz : noz Γ = true) (hm1 : 1 ≤ mt) : Holds { Z with gs := Z.gs.set j (gTl mt l ds (rows.set k (vs', ds'))) } σ (upd H (ds.getD k 0) (.lst vs')) Γ := by
  have hg : gTl mt l ds rows ∈ Z.gs := List.mem_of_getElem? hj
  have t := h.tlAt hg
  have hkl := (List.getElem?_eq_some_iff.mp hr).1
  have hdk := tl_ref t hkl
  have hdm : ds.getD k 0 ∈ ds := List.mem_of_getElem? hdk
  have hdm' : ds.getD k 0 ∈ l :: ds := List.mem_cons_of_mem _ hdm
  have hx : ds.getD k 0 ∈ Z.ex := (h.gok _ hg).1 _ hdm'
  have hxO : ds.getD k 0 ∈ Z.O σ Γ := List.mem_append_left _ hx
  have hne : l ≠ ds.getD k 0 := fun z => (List.nodup_cons.mp t.2.2.1).1 (by rw [z]; exact hdm)
  have up := rg_mut (H0 := Z.h0) (Hs := Z.h0) (H := H) (o' := .lst vs') hm1 hxO
  refine h.turn1 hj rfl hdm' hz ⟨(h.gok _ hg).1, hm1, ?_, by rw [List.length_set]; exact t.2.1, t.2.2.1, fun i' d' row' hd' hr' => ?_⟩
  · show only (l :: ds) _ l = _
    rw [only_at List.mem_cons_self, upd_ne hne]
    exact (only_some t.1).2
  · have hdi : d' ∈ l :: ds := List.mem_cons_of_mem _ (List.mem_of_getElem? hd')
    by_cases hik : k = i'
    · subst hik
      rw [hdk] at hd'
      cases hd'
      rw [List.getElem?_set_self hkl] at hr'
      cases hr'
      exact ⟨by show only (l :: ds) _ _ = _; rw [only_at hdi, upd_same], r.mono up⟩
    · rw [List.getElem?_set_ne hik] at hr'
      obtain ⟨q1, q2⟩ := t.2.2.2 i' d' row' hd' hr'
      have hnd := (List.nodup_cons.mp t.2.2.1).2
      have hne' : d' ≠ ds.getD k 0 := fun z => by
        have h1 : i' < ds.length := (List.getElem?_eq_some_iff.mp hd').1
        rw [z] at hd'
        have h2 : ds[i']? = ds[k]? := hd'.trans hdk.symm
        exact hik ((List.getElem?_inj h1 hnd).mp h2).symm
      exact ⟨by show only (l :: ds) _ _ = _; rw [only_at hdi, upd_ne hne']; exact (only_some q1).2, q2.mono up⟩
/-- t[k].pop() -/
theorem w_popTl (j k : Nat) (hj : Z.gs[j]? = some (gTl mt l ds rows)) (ho : PE X o (tR Z Γ (.ref (ds.getD k 0)))) (hr : rows[k]? = some row) (hd : row.2 ≠ []) (h : Holds Z σ H Γ)
    (kk : ∀ H', Holds { Z with gs := Z.gs.set j (gTl mt l ds (rows.set k (row.1.dropLast, row.2.dropLast))) } σ H' Γ → wp X rest E σ H') (hm1 : 1 ≤ mt := by decide) (hz : noz Γ = true := by rfl) (hb : attributeBase o "pop" X.env (eval o X.env) = eval o X.env := by rfl)
    (hline : (ap.endLine == cp.line) = true := by rfl) (hs : swapsWith (.Call (.Attribute o "pop" ap) [] [] cp) none pos.line X.env = pure false := by rfl) :
    wp X (.Expr (.Call (.Attribute o "pop" ap) [] [] cp) pos :: rest) E σ H :=
  wp_cons (ps_expr (pe_bm0 PySem.F.plainAttrs_list PySem.F.slot_list_pop PySem.F.type_list_pop mt_pop ho hb hline) hs) ⟨h, fun H1 e1 => by
    have hg : gTl mt l ds rows ∈ Z.gs := List.mem_of_getElem? hj
    have h1 := h.grow e1
    obtain ⟨q1, q2⟩ := h1.rowL hg hr
    have hvl : row.1.length - 1 < row.1.length := by
      have := q2.length
      have := List.length_pos_iff.mpr hd
      omega
    exact ⟨.inl ⟨rfl, _, .of q1⟩, _, row.1, row.1[row.1.length - 1], rfl, rfl, q1, List.getElem?_eq_getElem hvl, kk _ (h1.rowTl hj hr q2.dropLast hz hm1)⟩⟩
/-- x, y = two new lists of new lists -/
theorem w_par2Gl {xs ys : List (List D)} {x y : Str} {px py pt : Pos} {kt k2 : Nat} {pt2 : Pos} (i j : Nat) (ha : PE X a (tGl Z Γ mt xs)) (hb : ∀ Z' : Fr, Z'.h0 = Z.h0 → (∀ g ∈ Z.gs, g ∈ Z'.gs) → PE X b (tGl Z' Γ mt ys)) (h : Holds Z σ H Γ)
    (k : ∀ l ds rows l2 ds2 rows2 σ' H', rows.map (·.2) = xs → rows2.map (·.2) = ys → Holds { Z with ex := (l2 :: ds2) ++ ((l :: ds) ++ Z.ex), gs := (Z.gs ++ [gTl mt l ds rows]) ++ [gTl mt l2 ds2 rows2] } σ' H' ((Γ.set i (.raw (.ref l))).set j (.raw (.ref l2))) → wp X rest E σ' H') (hN : X.N.Nodup) (hm1 : 1 ≤ mt := by decide)
    (hc : X.calm = true := by rfl) (hi : X.N[i]? = some x := by rfl) (hj : X.N[j]? = some y := by rfl) (hij : i ≠ j := by decide) (hx : X.env.scope.names.lookup x = some .local := by rfl) (hy : X.env.scope.names.lookup y = some .local := by rfl)
    (hs1 : starEach [a, b] X.env = (false, eval a X.env) :: starEach [b] X.env := by rfl) (hs2 : starEach [b] X.env = (false, eval b X.env) :: starEach [] X.env := by rfl)
    (hw : swappedStores [.Tuple [.Name x px, .Name y py] kt pt] (.Tuple [a, b] k2 pt2) X.env = pure (some [x, y]) := by rfl)
    (hs : swapsWithSole [.Tuple [.Name x px, .Name y py] kt pt] (.Tuple [a, b] k2 pt2) pos.line X.env = pure false := by rfl) :
    wp X (.Assign [.Tuple [.Name x px, .Name y py] kt pt] (.Tuple [a, b] k2 pt2) pos :: rest) E σ H :=
  wp_cons (ps_par hc hN hi hj hij hx hy (ta := tWs X [a, b]) (pa_cons wE_ok (pa_cons wE_ok pa_nil hs2) hs1) hw hs)
    ⟨_, ha, h, fun l ds rows H1 e1 n1 r1 t1 => by
      have h1 := h.addGl e1 n1 hm1 t1
      exact ⟨_, hb { Z with ex := (l :: ds) ++ Z.ex, gs := Z.gs ++ [gTl mt l ds rows] } rfl (fun g hg => List.mem_append_left _ hg), h1, fun l2 ds2 rows2 H2 e2 n2 r2 t2 => ⟨_, _, rfl, k l ds rows l2 ds2 rows2 _ H2 r1 r2 (((h1.addGl e2 n2 hm1 t2).raw i (.ref l)).raw j (.ref l2))⟩⟩⟩
/-- no slot owns a list -/
def noOwn : List SV → Bool
  | [] => true
  | .own _ _ :: _ => false
  | _ :: Γ => noOwn Γ
theorem noOwn_nil : ∀ {Γ : List SV} {σ : L2.St}, noOwn Γ = true → owns σ Γ = []
  | Γ, σ, h => List.eq_nil_iff_forall_not_mem.mpr fun l hl => by
    obtain ⟨i, m, ds, _, h2⟩ := mem_owns.mp hl
    exact at_ h h2
where
  at_ : ∀ {Γ : List SV} {i m : Nat} {ds : List D}, noOwn Γ = true → Γ[i]? = some (.own m ds) → False
    | [], _, _, _, _, h => by cases h
    | s :: Γ, 0, m, ds, hn, h => by cases h; cases hn
    | s :: Γ, i + 1, m, ds, hn, h => by
      refine at_ (Γ := Γ) (i := i) ?_ h
      cases s with
      | own m ds => cases hn
      | dat m d => exact hn
      | any => exact hn
      | raw v => exact hn
/-- all that is hidden is given up -/
theorem Holds.openAll (h : Holds Z σ H Γ) : Holds { Z with ex := [], gs := [] } σ H Γ := by
  have h5 : Holds { Z with ex := Z.ex ++ [] } σ H Γ := by rw [List.append_nil]; exact h
  exact h5.open_ (gs' := []) (fun g hg => by cases hg) .nil
/-- hidden lists of lists, as a datum -/
theorem Holds.tlRep (h : Holds Z σ H Γ) (hg : gTl 2 l ds rows ∈ Z.gs) : Rep (rg 2 [] Z.h0 Z.h0 H) (.ref l) (.lst (rows.map fun r => .lst r.2)) := tl_rep h hg
theorem Holds.rawDat0 {v : V} (h : Holds Z σ H Γ) (hex : Z.ex = []) (hn : noOwn Γ = true) (i : Nat) (hΓ : Γ[i]? = some (.raw v)) (r : Rep (rg m [] Z.h0 Z.h0 H) v d) : Holds Z σ H (Γ.set i (.dat m d)) := by
  refine h.rawDat i hΓ ?_
  rw [show Z.O σ Γ = [] from by show Z.ex ++ owns σ Γ = []; rw [hex, noOwn_nil hn]; rfl]
  exact r
end
end DL

set_option Elab.async false
set_option linter.all false
set_option maxRecDepth 100000
set_option maxHeartbeats 4000000
/-! DL34: objects of a hidden chunk changed by list methods. -/
namespace DL
open PySem L2
section
variable {X : Cx} {e a b o : Expr} {pos ap cp : Pos} {rest : List Stmt} {E : Ends} {σ : L2.St} {H H' : Hp} {Z : Fr} {Γ : List SV} {m ma mb i j k : Nat} {v w : V} {d da : D} {ds : List D} {as : List Addr} {B : Hp} {l : Addr} {vs : List V}
/-- what a slot holds, in the region of its own mode -/
theorem Holds.rep_own (h : Holds Z σ H Γ) (i : Nat) {m : Nat} {d : D} (hΓ : Γ[i]? = some (.dat m d)) : ∃ v, σ[i]? = some (some v) ∧ Rep (rg m (Z.O σ Γ) Z.h0 Z.h0 H) v d := by
  have hi : i < σ.length := by rw [h.len]; exact (List.getElem?_eq_some_iff.mp hΓ).1
  obtain ⟨v, e, r⟩ := h.ok i _ _ (List.getElem?_eq_getElem hi) hΓ
  exact ⟨v, by rw [List.getElem?_eq_getElem hi, e], r⟩
/-- one object of a chunk is another one -/
theorem Holds.chunkSet {u u' : HO} (h : Holds Z σ H Γ) (hj : Z.gs[j]? = some (gH as B)) (hl : B l = some u) (hz : noz Γ = true) : Holds { Z with gs := Z.gs.set j (gH as (upd B l u')) } σ (upd H l u') Γ := by
  have hg : gH as B ∈ Z.gs := List.mem_of_getElem? hj
  have hc := h.chunk hg
  have hla := (only_some (hc _ _ hl)).1
  refine h.turn1 hj rfl hla hz ⟨(h.gok _ hg).1, Nat.le_refl _, fun c o z => ?_⟩
  show only as (upd H l u') c = some o
  by_cases hcl : c = l
  · subst hcl
    rw [upd_same] at z
    rw [only_at hla, upd_same]; exact z
  · rw [upd_ne hcl] at z
    obtain ⟨y1, y2⟩ := only_some (hc _ _ z)
    rw [only_at y1, upd_ne hcl]; exact y2
theorem Holds.chunk_at {u : HO} (h : Holds Z σ H Γ) (hg : gH as B ∈ Z.gs) (hl : B l = some u) : H l = some u := (only_some ((h.chunk hg) _ _ hl)).2
/-- x.pop() -/
theorem w_popH (j : Nat) (hj : Z.gs[j]? = some (gH as B)) (ho : PE X o (tR Z Γ (.ref l))) (hl : B l = some (.lst vs)) (hv : vs ≠ []) (h : Holds Z σ H Γ) (kk : ∀ H', Holds { Z with gs := Z.gs.set j (gH as (upd B l (.lst vs.dropLast))) } σ H' Γ → wp X rest E σ H')
    (hz : noz Γ = true := by rfl) (hb : attributeBase o "pop" X.env (eval o X.env) = eval o X.env := by rfl) (hline : (ap.endLine == cp.line) = true := by rfl) (hs : swapsWith (.Call (.Attribute o "pop" ap) [] [] cp) none pos.line X.env = pure false := by rfl) :
    wp X (.Expr (.Call (.Attribute o "pop" ap) [] [] cp) pos :: rest) E σ H :=
  wp_cons (ps_expr (pe_bm0 PySem.F.plainAttrs_list PySem.F.slot_list_pop PySem.F.type_list_pop mt_pop ho hb hline) hs) ⟨h, fun H1 e1 => by
    have h1 := h.grow e1
    have q1 := h1.chunk_at (List.mem_of_getElem? hj) hl
    have := List.length_pos_iff.mpr hv
    exact ⟨.inl ⟨rfl, _, .of q1⟩, l, vs, vs[vs.length - 1], rfl, rfl, q1, List.getElem?_eq_getElem (by omega), kk _ (h1.chunkSet hj hl hz)⟩⟩
/-- x.reverse() -/
theorem w_revH (j : Nat) (hj : Z.gs[j]? = some (gH as B)) (ho : PE X o (tR Z Γ (.ref l))) (hl : B l = some (.lst vs)) (h : Holds Z σ H Γ) (kk : ∀ H', Holds { Z with gs := Z.gs.set j (gH as (upd B l (.lst vs.reverse))) } σ H' Γ → wp X rest E σ H')
    (hz : noz Γ = true := by rfl) (hb : attributeBase o "reverse" X.env (eval o X.env) = eval o X.env := by rfl) (hline : (ap.endLine == cp.line) = true := by rfl) (hs : swapsWith (.Call (.Attribute o "reverse" ap) [] [] cp) none pos.line X.env = pure false := by rfl) :
    wp X (.Expr (.Call (.Attribute o "reverse" ap) [] [] cp) pos :: rest) E σ H :=
  wp_cons (ps_expr (pe_bm0 PySem.F.plainAttrs_list PySem.F.slot_list_reverse PySem.F.type_list_reverse mt_reverse ho hb hline) hs) ⟨h, fun H1 e1 => by
    have h1 := h.grow e1
    have q1 := h1.chunk_at (List.mem_of_getElem? hj) hl
    exact ⟨.inl ⟨rfl, _, .of q1⟩, l, vs, rfl, rfl, q1, kk _ (h1.chunkSet hj hl hz)⟩⟩
/-- x.clear() -/
theorem w_clearH (j : Nat) (hj : Z.gs[j]? = some (gH as B)) (ho : PE X o (tR Z Γ (.ref l))) (hl : B l = some (.lst vs)) (h : Holds Z σ H Γ) (kk : ∀ H', Holds { Z with gs := Z.gs.set j (gH as (upd B l (.lst []))) } σ H' Γ → wp X rest E σ H')
    (hz : noz Γ = true := by rfl) (hb : attributeBase o "clear" X.env (eval o X.env) = eval o X.env := by rfl) (hline : (ap.endLine == cp.line) = true := by rfl) (hs : swapsWith (.Call (.Attribute o "clear" ap) [] [] cp) none pos.line X.env = pure false := by rfl) :
    wp X (.Expr (.Call (.Attribute o "clear" ap) [] [] cp) pos :: rest) E σ H :=
  wp_cons (ps_expr (pe_bm0 PySem.F.plainAttrs_list PySem.F.slot_list_clear PySem.F.type_list_clear mt_clear ho hb hline) hs) ⟨h, fun H1 e1 => by
    have h1 := h.grow e1
    have q1 := h1.chunk_at (List.mem_of_getElem? hj) hl
    exact ⟨.inl ⟨rfl, _, .of q1⟩, l, vs, rfl, rfl, q1, kk _ (h1.chunkSet hj hl hz)⟩⟩
/-- x[j] = e, a scalar -/
theorem w_setiH (j : Nat) {n : Nat} {ix : Expr} {ip : Pos} {mi : Nat} (hj : Z.gs[j]? = some (gH as B)) (ho : PE X o (tR Z Γ (.ref l))) (hl : B l = some (.lst vs)) (he : PE X e (tD Z Γ ma d)) (hw : sc d = some w) (hix : PE X ix (tD Z Γ mi (.int (n : Int)))) (hn : n < vs.length) (h : Holds Z σ H Γ) (kk : ∀ H', Holds { Z with gs := Z.gs.set j (gH as (upd B l (.lst (vs.set n w)))) } σ H' Γ → wp X rest E σ H')
    (hz : noz Γ = true := by rfl)
    (ha : ∀ v, assign (.Subscript o ix ip) X.env v = (do
      let ov ← holding [v] (eval o X.env)
      let iv ← holding [v, ov] (eval ix X.env)
      standAt ip
      holding [v, ov, iv] (setItem ov iv v)
      release [v, ov, iv] []) := by intro _; rfl)
    (hs : swapsWithSole [.Subscript o ix ip] e pos.line X.env = pure false := by rfl) (hw' : swappedStores [.Subscript o ix ip] e X.env = pure none := by rfl) (h1 : (assignEach [.Subscript o ix ip] X.env).map (·.2) = [assign (.Subscript o ix ip) X.env] := by rfl) :
    wp X (.Assign [.Subscript o ix ip] e pos :: rest) E σ H :=
  wp_cons (ps_asg he (pg_sub ho hix set_list ha) hs hw' h1) ⟨h, fun v H1 e1 r1 => by
    have h1 := h.grow e1
    have ev := rep_sc hw r1
    subst ev
    refine ⟨h1, fun H2 e2 => ⟨h1.grow e2, fun y H3 e3 r3 => ?_⟩⟩
    cases r3
    have h3 := h1.grow (e2.trans e3)
    have q := h3.chunk_at (List.mem_of_getElem? hj) hl
    exact ⟨l, vs, (n : Int), n, rfl, rfl, q, ix_nat hn, kk _ (h3.chunkSet hj hl hz)⟩⟩
theorem Holds.callGives {H : Hp} (h : Holds Z σ H Γ) : Ex Z.h0 H := h.h0x
/-- f() -/
theorem d_fn0 {CX : CXT} {j k : Nat} {sp : Sp} {E : XK} {x : Str} {st : Stmt} {ps : List Str} {p : Pos} (D : Dfn X.K X.mg x st ps) (F : FnOk X.prog X.w X.K X.mg X.base CX k D.f D.fd ps sp) (hr : Room j X.A) (hx : Passes CX X E)
    (hG : Gives sp [] d) (hk : k ≤ j := by decide) (hg : Gl X x := by rfl) (hdb : (x == ("__debug__" : Str)) = false := by decide) : PE X (.Call (.Name x p) [] [] pos) (tD Z Γ 3 d) :=
  pe_imp (pe_call0 F (hr.mono hk) hg D.g D.F.kp D.b .nil hx hdb) fun σ H Q h => hG _ H Q _ .nil fun v H2 e2 k => h.2 v H2 e2 (k.mono (rg_fresh h.1.dom h.1.h0x (Ex.refl _)))
end
end DL

set_option Elab.async false
set_option linter.all false
set_option maxRecDepth 100000
set_option maxHeartbeats 4000000
/-! DL35: methods that change their instance: the instance's own objects are a hidden chunk. -/
namespace DL
open PySem L2
/-- H without as -/
def offs (as : List Addr) (H : Hp) : Hp := fun b => if b ∈ as then none else H b
theorem offs_in {as : List Addr} {H : Hp} {a : Addr} (h : a ∈ as) : offs as H a = none := by unfold offs; rw [if_pos h]
theorem offs_out {as : List Addr} {H : Hp} {a : Addr} (h : a ∉ as) : offs as H a = H a := by unfold offs; rw [if_neg h]
theorem offs_le {as : List Addr} {H : Hp} : Ex (offs as H) H := fun a o z => by
  unfold offs at z
  split at z
  · cases z
  · exact z
theorem offs_some {as : List Addr} {H : Hp} {a : Addr} {o : HO} (h : offs as H a = some o) : a ∉ as ∧ H a = some o := by
  unfold offs at h
  split at h
  · cases h
  · rename_i q; exact ⟨q, h⟩
abbrev frM (as : List Addr) (H : Hp) : Fr := { h0 := offs as H, ex := as, gs := [gH as (only as H)] }
theorem holds_startM {N : List Str} {x : Addr} {ws : List V} {ds : List D} {H : Hp} {as : List Addr} (hd : ∀ a ∈ as, H a ≠ none) (r : RepL (offs as H) ws ds) (Γ : List SV) (hN : ds.length + 1 ≤ N.length) (hΓ : Γ = .raw (.ref x) :: (ds.map (SV.dat 1) ++ List.replicate (N.length - (ds.length + 1)) .any)) : Holds (frM as H) (L2.start N (.ref x :: ws)) H Γ := by
  have hlen := r.length
  have no : owns (L2.start N (.ref x :: ws)) Γ = [] := by
    refine noOwn_nil ?_
    rw [hΓ]
    have : ∀ k, noOwn (List.replicate k SV.any) = true := fun k => by
      induction k with
      | zero => rfl
      | succ k ih => rw [List.replicate_succ]; exact ih
    have : ∀ es : List D, noOwn (es.map (SV.dat 1) ++ List.replicate (N.length - (ds.length + 1)) .any) = true := fun es => by
      induction es with
      | nil => exact this _
      | cons e es ih => exact ih
    exact this ds
  have eO : (frM as H).O (L2.start N (.ref x :: ws)) Γ = as := by
    show as ++ owns _ _ = _
    rw [no, List.append_nil]
  refine ⟨fun B hB => ?_, fun l hl => ?_, ?_, by rw [no]; exact List.nodup_nil, fun i o sv e1 e2 => ?_, fun g hg => ?_, List.pairwise_singleton _ _, fun B hB => absurd hB (by simp)⟩
  · rcases hB with z | z
    · rw [z, eO]
      exact ⟨offs_le, fun l hl => offs_in hl⟩
    · cases z
  · rw [no]
    exact ⟨hd l hl, by simp⟩
  · rw [hΓ]
    unfold L2.start
    simp only [List.length_append, List.length_map, List.length_replicate, List.length_cons]
    omega
  · rw [eO]
    rw [hΓ] at e2
    have ev : ∀ k (hk : k < (V.ref x :: ws).length), (L2.start N (.ref x :: ws))[k]? = some (some (V.ref x :: ws)[k]) := fun k hk => by
      unfold L2.start
      rw [List.getElem?_append_left (by rw [List.length_map]; exact hk), List.getElem?_map, List.getElem?_eq_getElem hk]; rfl
    cases i with
    | zero =>
      cases e2
      rw [ev 0 (by simp)] at e1
      cases e1
      rfl
    | succ i =>
      rw [List.getElem?_cons_succ] at e2
      by_cases hi : i < ds.length
      · rw [List.getElem?_append_left (by rw [List.length_map]; exact hi), List.getElem?_map, List.getElem?_eq_getElem hi] at e2
        cases e2
        rw [ev (i + 1) (by simp; omega)] at e1
        cases e1
        obtain ⟨d, hd, rr⟩ := r.get (List.getElem?_eq_getElem (show i < ws.length by omega))
        rw [List.getElem?_eq_getElem hi] at hd
        cases hd
        refine ⟨_, rfl, rr.nt.mono fun a o q => ?_⟩
        obtain ⟨q1, q2⟩ := nt_some q
        obtain ⟨q3, q4⟩ := offs_some q1
        exact reg_has q3 rfl q4 q2
      · rw [List.getElem?_append_right (by rw [List.length_map]; omega), List.getElem?_replicate] at e2
        split at e2
        · cases e2; trivial
        · cases e2
  · rw [List.mem_singleton.mp hg]
    exact ⟨fun a ha => ha, Nat.le_refl _, Ex.refl _⟩
section
variable {X : Cx} {e a b o : Expr} {pos ap cp : Pos} {rest : List Stmt} {E : Ends} {σ : L2.St} {H H' : Hp} {Z : Fr} {Γ : List SV} {m ma mb i j k : Nat} {v w : V} {d da : D} {ds : List D} {as : List Addr} {B : Hp} {l : Addr} {vs : List V}
/-- a known scalar -/
theorem d_rsc (he : PE X e (tR Z Γ w)) (hw : sc d = some w) : PE X e (tD Z Γ 3 d) := pe_imp he fun σ H Q h => ⟨h.1, fun H1 e1 => h.2 w H1 e1 (sc_rep hw _)⟩
/-- len of a list of a hidden chunk -/
theorem d_lenH {p : Pos} (hm : X.mg "len" = none) (ha : PE X a (tR Z Γ (.ref l))) (hg : gH as B ∈ Z.gs) (hl : B l = some (.lst vs)) (hgl : Gl X "len" := by rfl) (he : starEach [a] X.env = (false, eval a X.env) :: starEach [] X.env := by rfl) (hpl : (backTo pos (starEach [] X.env)).any (·.1) = false := by rfl) : PE X (.Call (.Name "len" p) [a] [] pos) (tD Z Γ 3 (.int (vs.length : Int))) :=
  pe_imp (pe_callB call_len_seq hgl hm PySem.boot_len (pa_cons ha pa_nil he) (by decide) (by decide) he hpl) fun σ H Q h => ⟨h.1, fun H1 e1 => ⟨l, vs, rfl, .inl (.of ((h.1.grow e1).chunk_at hg hl)), h.2 _ H1 e1 (.int _)⟩⟩
/-- list(xs), xs of a hidden chunk -/
theorem n_listH {p : Pos} (hm : X.mg "list" = none) (ha : PE X a (tR Z Γ (.ref l))) (hgm : gH as B ∈ Z.gs) (hl : B l = some (.lst vs)) (hz : vs.length ≤ 1000000) (hg : Gl X "list" := by rfl) (he : starEach [a] X.env = (false, eval a X.env) :: starEach [] X.env := by rfl) (hpl : (backTo pos (starEach [] X.env)).any (·.1) = false := by rfl) :
    PE X (.Call (.Name "list" p) [a] [] pos) (tRL Z Γ vs) :=
  pe_imp (pe_callTy call_list_of hg hm (by decide +kernel) (pa_cons ha pa_nil he) (by decide) (by decide) he hpl) fun σ H Q h => ⟨h.1, fun H1 e1 => by
    have q := (h.1.grow e1).chunk_at hgm hl
    exact ⟨l, vs, rfl, .inl (.of q), fun p hp => h.2 p _ (e1.trans (.new hp)) (Ex.free e1 hp) upd_same⟩⟩
/-- o.f = a known value, o of a hidden chunk -/
theorem w_fldH {x C dx : Addr} {fs : List (Str × V)} {f : Str} {value : Expr} {pos' : Pos} (j : Nat) (hj : Z.gs[j]? = some (gH as B)) (ho : PE X o (tR Z Γ (.ref x))) (he : PE X value (tR Z Γ w)) (hx : B x = some (.ins C dx fs)) (c : Cls X.K C) (n : NoAttr X.K C f) (hl : fs.length < 1000) (h : Holds Z σ H Γ)
    (kk : ∀ H', Holds { Z with gs := Z.gs.set j (gH as (upd B x (.ins C dx (putF f w fs)))) } σ H' Γ → wp X rest E σ H') (hz : noz Γ = true := by rfl) (hs : swapsWith value (some (.Attribute o f pos')) pos.line X.env = pure false := by rfl) : wp X (.Assign [.Attribute o f pos'] value pos :: rest) E σ H :=
  wp_cons (ps_fld ho he hs) ⟨h, fun H1 e1 => ⟨h.grow e1, fun H2 e2 => by
    have h2 := h.grow (e1.trans e2)
    exact ⟨x, C, dx, fs, rfl, h2.chunk_at (List.mem_of_getElem? hj) hx, c, n, hl, kk _ (h2.chunkSet hj hx hz)⟩⟩⟩
/-- return of a known value -/
theorem w_retV (he : PE X e (tR Z Γ w)) (h : Holds Z σ H Γ) (k : ∀ H', Ex H H' → Holds Z σ H' Γ → E.rt w H') : wp X (.Return (some e) pos :: rest) E σ H := w_retR he h k
end
end DL

set_option Elab.async false
set_option linter.all false
set_option maxRecDepth 100000
set_option maxHeartbeats 4000000
/-! DL36: more of chunks: append with what is new, o.f += e. -/
namespace DL
open PySem L2
section
variable {X : Cx} {e a b o : Expr} {pos : Pos} {rest : List Stmt} {E : Ends} {σ : L2.St} {H H' : Hp} {Z : Fr} {Γ : List SV} {m ma mb i j k : Nat} {v w : V} {d da : D} {ds : List D} {as : List Addr} {B : Hp} {l : Addr} {vs : List V}
/-- x.append(e), x a list of a hidden chunk -/
theorem w_appH2 {ap cp : Pos} (j : Nat) (hj : Z.gs[j]? = some (gH as B)) (ho : PE X o (tR Z Γ (.ref l))) (he : PE X e (tD Z Γ 3 d)) (hl : B l = some (.lst vs)) (h : Holds Z σ H Γ)
    (kk : ∀ v as' B' H', Ex (wo B l) B' → B' l = some (.lst (vs ++ [v])) → Rep (wo B' l) v d → Rep (reg [] H H') v d → Holds { Z with ex := as' ++ Z.ex, gs := Z.gs.set j (gH (as' ++ as) B') } σ H' Γ → wp X rest E σ H')
    (hlen : vs.length < 1000000) (hz : noz Γ = true := by rfl) (hst : starEach [e] X.env = (false, eval e X.env) :: starEach [] X.env := by rfl)
    (hb : attributeBase o "append" X.env (eval o X.env) = eval o X.env := by rfl)
    (hfew : ((backTo cp (starEach (e :: []) X.env)).all (fun x => !x.1) && (backToKw cp (keywordEach [] X.env)).all (fun x => x.1.isSome) && decide ((e :: ([] : List Expr)).length + ([] : List Keyword).length + (if ([] : List Keyword).isEmpty then 0 else 1) < 30)) = true := by rfl)
    (hline : (ap.endLine == cp.line) = true := by rfl) (hplain : (backTo cp (starEach [] X.env)).any (·.1) = false := by rfl)
    (hs : swapsWith (.Call (.Attribute o "append" ap) [e] [] cp) none pos.line X.env = pure false := by rfl) : wp X (.Expr (.Call (.Attribute o "append" ap) [e] [] cp) pos :: rest) E σ H := by
  refine wp_cons (ps_expr (pe_bm PySem.F.plainAttrs_list PySem.F.slot_list_append PySem.F.type_list_append mt_append ho (pa_cons he pa_nil hst) hb hfew hline hst hplain) hs) ⟨h, fun H1 e1 => ?_⟩
  have hg : gH as B ∈ Z.gs := List.mem_of_getElem? hj
  have h1 := h.grow e1
  have q1 := (h1.chunk hg) _ _ hl
  obtain ⟨hla, q1⟩ := only_some q1
  refine ⟨.inl ⟨rfl, _, .of q1⟩, h1, fun v H2 e2 rv => ?_⟩
  have h2 := h1.grow e2
  obtain ⟨as2, s1, s2⟩ := rv.supD
  have hm : ∀ a ∈ as2, H1 a = none ∧ ∃ o, H2 a = some o := fun a ha => by
    obtain ⟨o, q1, q2⟩ := s1 a ha
    obtain ⟨k1, k2, k3, k4⟩ := reg_some4 q1
    exact ⟨k2, o, k3⟩
  have hB2 := h2.chunk hg
  have nla : l ∉ as2 := fun z => by rw [(hm l z).1] at q1; cases q1
  refine ⟨l, vs, v, rfl, rfl, e2 _ _ q1, Nat.lt_of_lt_of_le hlen (by decide), ?_⟩
  -- the chunk with the new datum
  have b1 : Ex B (fun a => if a ∈ as2 then H2 a else B a) := fun a o z => by
    have := only_some ((h1.chunk hg) _ _ z)
    show (if a ∈ as2 then H2 a else B a) = some o
    by_cases hq : a ∈ as2
    · rw [(hm a hq).1] at this; cases this.2
    · rw [if_neg hq]; exact z
  have h3 := h1.tell1 (as := as2) (g' := gH (as2 ++ as) (fun a => if a ∈ as2 then H2 a else B a)) e2 hj (fun a ha => List.mem_append.mp ha) (fun a ha => ⟨(hm a ha).1, by obtain ⟨o, q⟩ := (hm a ha).2; rw [q]; simp⟩) (Nat.le_refl _) (fun a o z => by
    have z : (if a ∈ as2 then H2 a else B a) = some o := z
    show only (as2 ++ as) H2 a = some o
    by_cases hq : a ∈ as2
    · rw [if_pos hq] at z
      rw [only_at (List.mem_append_left _ hq)]; exact z
    · rw [if_neg hq] at z
      obtain ⟨y1, y2⟩ := only_some (hB2 _ _ z)
      rw [only_at (List.mem_append_right _ y1)]; exact y2)
  have hjl : j < Z.gs.length := (List.getElem?_eq_some_iff.mp hj).1
  have h4 := h3.turn1 (p := l) (o := .lst (vs ++ [v])) (g' := gH (as2 ++ as) (upd (fun a => if a ∈ as2 then H2 a else B a) l (.lst (vs ++ [v])))) (List.getElem?_set_self hjl) rfl (List.mem_append_right _ hla) hz ⟨fun a ha => ((h3.gok _ (List.mem_of_getElem? (List.getElem?_set_self hjl))).1 a ha), Nat.le_refl _, fun a o z => by
    show only (as2 ++ as) (upd H2 l _) a = some o
    by_cases hal : a = l
    · subst hal
      rw [upd_same] at z
      rw [only_at (List.mem_append_right _ hla), upd_same]; exact z
    · rw [upd_ne hal] at z
      have z : (if a ∈ as2 then H2 a else B a) = some o := z
      by_cases hq : a ∈ as2
      · rw [if_pos hq] at z
        rw [only_at (List.mem_append_left _ hq), upd_ne hal]; exact z
      · rw [if_neg hq] at z
        obtain ⟨y1, y2⟩ := only_some (hB2 _ _ z)
        rw [only_at (List.mem_append_right _ y1), upd_ne hal]; exact y2⟩
  refine kk v as2 _ _ (fun a o z => ?_) (upd_same ..) (s2.mono fun a o z => ?_) (s2.mono fun a o z => ?_) (by rw [show ({ Z with ex := as2 ++ Z.ex, gs := Z.gs.set j (gH (as2 ++ as) (fun a => if a ∈ as2 then H2 a else B a)) } : Fr).gs = Z.gs.set j (gH (as2 ++ as) (fun a => if a ∈ as2 then H2 a else B a)) from rfl, List.set_set] at h4; exact h4)
  · unfold wo at z
    by_cases hal : a = l
    · rw [if_pos hal] at z; cases z
    · rw [if_neg hal] at z
      rw [upd_ne hal]
      exact b1 _ _ z
  · obtain ⟨z1, z2⟩ := only_some z
    have hal : a ≠ l := fun q => nla (q ▸ z1)
    rw [wo_ne hal, upd_ne hal]
    show (if a ∈ as2 then H2 a else B a) = some o
    rw [if_pos z1]
    exact rg_le _ _ z2
  · obtain ⟨z1, z2⟩ := only_some z
    have hal : a ≠ l := fun q => nla (q ▸ z1)
    obtain ⟨k1, k2, k3, k4⟩ := reg_some4 z2
    exact reg_has (by simp) (Ex.free e1 k2) (by rw [upd_ne hal]; exact k3) k4
/-- o.f += e, numbers -/
theorem w_fldaddH {x C dx : Addr} {fs : List (Str × V)} {f : Str} {value : Expr} {tpos : Pos} {n k : Int} (j : Nat) (hj : Z.gs[j]? = some (gH as B)) (ho : PE X o (tR Z Γ (.ref x))) (he : PE X value (tD Z Γ ma (.int k))) (hx : B x = some (.ins C dx fs)) (hf : fs.lookup f = some (.int n)) (c : Cls X.K C) (na : NoAttr X.K C f) (hl : fs.length < 1000) (h : Holds Z σ H Γ)
    (kk : ∀ H', Holds { Z with gs := Z.gs.set j (gH as (upd B x (.ins C dx (putF f (.int (n + k)) fs)))) } σ H' Γ → wp X rest E σ H') (hz : noz Γ = true := by rfl) : wp X (.AugAssign (.Attribute o f tpos) .Add value pos :: rest) E σ H :=
  wp_cons (ps_fldaug ho he in_add) ⟨h, fun H1 e1 => by
    have h1 := h.grow e1
    refine ⟨x, C, dx, fs, .int n, rfl, h1.chunk_at (List.mem_of_getElem? hj) hx, c, na, hf, h1, fun y H2 e2 r => ?_⟩
    cases r
    have h2 := h1.grow e2
    exact ⟨n, k, rfl, rfl, dx, fs, h2.chunk_at (List.mem_of_getElem? hj) hx, hl, kk _ (h2.chunkSet hj hx hz)⟩⟩
end
end DL

set_option Elab.async false
set_option linter.all false
set_option maxRecDepth 100000
set_option maxHeartbeats 4000000
/-! DL37: C() without an __init__; a slice of a tuple; a list that goes from name to name. -/
namespace DL
open PySem PySem.W PySem.Calls PyProof.Rows L2
/-- a class without an __init__ of its own -/
structure MkO (K : PySem.W.Frag) (C : Addr) : Prop where
  makes : PySem.W.makesIn K C = true
  init : PySem.W.findIn K (.ref C) "__init__" = some (some (.builtin "object.__init__"))
  kp : PySem.W.keepIn K (.ref C) = true
section
variable {X : Cx} {pins : List (Addr × Obj)} {σ : L2.St} {H : Hp} {s : Shared} {Q : VK} {C : Addr}
theorem run_makeO (M : MkO X.K C) (I : Inv X pins σ H s) (h : ∀ x dx, H x = none → H dx = none → dx ≠ x → Q (.ref x) (upd (upd H dx (.own x)) x (.ins C dx []))) : wpAny (model X.prog X.w) X.A (call (.ref C) []) (EP X pins σ Q) X.xe s := by
  have hq := h (s.heap.objs.size + 1) s.heap.objs.size (I.hok.fresh (Nat.le_succ _)) (I.hok.fresh (Nat.le_refl _)) (Nat.ne_of_lt (Nat.lt_succ_self _))
  have I2 := Inv.made (C := C) I
  have top := (PySem.W.makes_of (M := model X.prog X.w) I2.kIn M.makes).top
  refine wpAny_call (make_map0 I.kIn M.makes M.init (fun self => Looks.of_pure (oi_bind self)) ?_)
  have at_ : ((s.heap.push PySem.W.emptyDict).push (PySem.W.instObj C s.heap.objs.size)).get? (s.heap.objs.size + 1) = some (PySem.W.instObj C s.heap.objs.size) := by
    rw [← Heap.size_push s.heap PySem.W.emptyDict]; exact Heap.get?_push_size _ rfl
  have t1 : Looks (model X.prog X.w) ((s.heap.push PySem.W.emptyDict).push (PySem.W.instObj C s.heap.objs.size)) (typeOf (.ref (s.heap.objs.size + 1))) (.ref C) := (Looks.ld at_).andThen .now
  have t2 : Looks (model X.prog X.w) ((s.heap.push PySem.W.emptyDict).push (PySem.W.instObj C s.heap.objs.size)) (isInstance (.ref (s.heap.objs.size + 1)) (.type "object")) true := t1.andThen top
  refine codeAny_call_builtin oi_plain entry_oi (@check_slot (model X.prog X.w) _ _ _ "object.__init__" "object" "__init__" (.ref (s.heap.objs.size + 1)) [] [] _ oi_kind oi_split t2 (oi_args (.ref (s.heap.objs.size + 1))) ?_)
  rw [oi_run]
  exact wpAny_pure (And.intro rfl ⟨V.ref (s.heap.objs.size + 1), _, I2, rfl, hq⟩)
end
end DL
namespace DL
open PySem L2
section
variable {X : Cx} {e a b o : Expr} {pos ap cp : Pos} {rest : List Stmt} {E : Ends} {σ : L2.St} {H H' : Hp} {Z : Fr} {Γ : List SV} {m ma mb i j k : Nat} {v w : V} {d da : D} {ds : List D} {as : List Addr} {B : Hp} {l : Addr} {vs : List V} {C : Addr}
/-- C() -/
theorem d_makeO {x : Str} {p : Pos} (M : MkO X.K C) (hm : X.mg x = some (.ref C)) (hg : Gl X x := by rfl) (hdb : (x == ("__debug__" : Str)) = false := by decide) : PE X (.Call (.Name x p) [] [] pos) (tD Z Γ 3 (.obj C [] [])) := by
  refine ⟨fun pins s σ H Q I h => ?_⟩
  refine wpAny_Call_Name_kw (ld_glob I hg hm ?_ hdb)
  refine PySem.W.callWith_K0 I.kIn M.kp (run_makeO M I fun x dx hx hdx hne => h.2 _ _ ?_ ?_)
  · exact fun a o z => by
      rw [upd_ne (ne_of_none z hx), upd_ne (ne_of_none z hdx)]; exact z
  · have h2 := h.1.grow (H' := upd (upd H dx (.own x)) x (.ins C dx [])) (fun a o z => by rw [upd_ne (ne_of_none z hx), upd_ne (ne_of_none z hdx)]; exact z)
    refine .obj (fs := []) (dx := dx) (rg_news h.1.dom h.1.h0x (Ex.refl _) hx (upd_same ..)) rfl .nil
/-- a proper part of a tuple -/
theorem d_slT {lo hi : Option Expr} {kl kh : Option Int} {p2 : Pos} (h : PE X e (tD Z Γ m (.tup ds))) (hl : PO X lo (tDO Z Γ kl)) (hh : PO X hi (tDO Z Γ kh)) (hn : ¬ (HT.sIx ds.length 0 kl = 0 ∧ HT.sIx ds.length ds.length kh = ds.length)) : PE X (.Subscript e (.Slice lo hi none p2) pos) (tD Z Γ m (.tup (cutD ds kl kh))) :=
  pe_imp (pe_slice sl_tup h hl hh) fun σ H Q k => ⟨k.1, fun x H1 e1 r => ⟨k.1.grow e1, fun H2 e2 => ⟨k.1.grow (e1.trans e2), fun H3 e3 => by
    cases r with
    | tup h1 h2 =>
      have e13 := e2.trans e3
      have e03 := e1.trans e13
      refine ⟨_, _, rfl, .of (e13 _ _ (rg_le _ _ h1)), by rw [h2.length]; exact hn, fun p hp => ?_⟩
      refine k.2 (.ref p) _ (e03.trans (Ex.new hp)) (.tup (rg_new (k.1.grow e03).dom (k.1.grow e03).h0x e03 hp) ?_)
      exact (h2.cut kl kh).mono (rg_ex (fun _ z => .inl z) (Ex.refl _) (e13.trans (Ex.new hp)))⟩⟩⟩
/-- x = y, a known value -/
theorem w_setR (i : Nat) {x : Str} {p : Pos} (he : PE X e (tR Z Γ v)) (h : Holds Z σ H Γ) (k : ∀ H', Ex H H' → Holds Z (σ.set i (some v)) H' (Γ.set i (.raw v)) → wp X rest E (σ.set i (some v)) H')
    (hN : X.N.Nodup) (hi : X.N[i]? = some x := by rfl) (hx : Loc X.env.scope x := by first | exact .inl rfl | exact .inr rfl) (hf : X.fn x = true ∨ X.env.scope.names.lookup x = some .local := by first | exact .inl rfl | exact .inr rfl)
    (hs : swapsWith e (some (.Name x p)) pos.line X.env = pure false := by rfl) : wp X (.Assign [.Name x p] e pos :: rest) E σ H :=
  wp_cons (ps_asg he (pg_name hN hi hx hf) hs) ⟨h, fun H' ex => k H' ex ((h.grow ex).raw i v)⟩
/-- n, xs = a new pair: the list is hidden, to become a name's own -/
theorem w_unpackIL {n : Int} {ns : List Int} {tg : Expr} (i j : Nat) (hg : PG X tg (gP X.K (.tp [.nm i, .nm j]))) (he : PE X e (tD Z Γ 3 (.tup [.int n, dI ns]))) (hij : i ≠ j) (h : Holds Z σ H Γ)
    (k : ∀ l σ' H', Ex H H' → H l = none → H' l = some (.lst (ns.map V.int)) → Holds { Z with ex := l :: Z.ex } σ' H' ((Γ.set i (.dat 2 (.int n))).set j (.raw (.ref l))) → wp X rest E σ' H')
    (hs : swapsWithSole [tg] e pos.line X.env = pure false := by rfl) (hw : swappedStores [tg] e X.env = pure none := by rfl) (h1 : (assignEach [tg] X.env).map (·.2) = [assign tg X.env] := by rfl) : wp X (.Assign [tg] e pos :: rest) E σ H :=
  wp_cons (ps_asg he hg hs hw h1) ⟨h, fun v H1 e1 r => by
    cases r with
    | tup r1 r2 =>
      rename_i t ws
      cases r2 with
      | cons q1 q2 =>
        cases q1
        cases q2 with
        | cons q3 q4 =>
          cases q4
          obtain ⟨l, us, rfl, k1, k2⟩ := lst_inv q3
          have ev := k2.ints_inv
          subst ev
          obtain ⟨kk1, kk2, kk3, kk4⟩ := reg_some4 k1
          have hh := (h.hide' e1 kk2 (by rw [kk3]; simp)).dat (m := 2) (d := .int n) (v := .int n) i (.int n)
          have hh2 := hh.raw j (.ref l)
          refine ⟨t, [.int n, .ref l], rfl, .of (rg_le _ _ r1), rfl, ?_⟩
          simp only [gPs, gP, gCons, gNil, gName]
          exact ⟨.int n, [.ref l], rfl, .ref l, [], rfl, rfl, k l _ H1 e1 kk2 kk3 hh2⟩⟩
end
end DL

set_option Elab.async false
set_option linter.all false
set_option maxRecDepth 100000
set_option maxHeartbeats 4000000
/-! DL38: a hidden list becomes a name's own. -/
namespace DL
open PySem L2
theorem cq_str {x : Str} {n : Nat} (h : (toPy (.str x)).canLay0 = true) : Cq n (.str x) := ⟨rfl, h, Nat.zero_le _⟩
theorem cq_turn {n : Nat} : Cq n (.str "turn") := cq_str (by decide +kernel)
theorem cq_wait {n : Nat} : Cq n (.str "wait") := cq_str (by decide +kernel)
theorem knd1_ints {ns : List Int} (h : ns.length ≤ 1000000) : knd1 (dI ns) = true := by
  show (_ && _) = true
  rw [List.length_map, lenOk_of h, Bool.true_and]
  exact List.all_eq_true.mpr fun d hd => by obtain ⟨i, _, rfl⟩ := List.mem_map.mp hd; rfl
section
variable {X : Cx} {e a b o : Expr} {pos ap cp : Pos} {rest : List Stmt} {E : Ends} {σ : L2.St} {H H' : Hp} {Z : Fr} {Γ : List SV} {m ma mb i j k : Nat} {v w : V} {d da : D} {ds : List D} {as : List Addr} {B : Hp} {l : Addr} {vs : List V} {C : Addr}
/-- x = y, a hidden list of numbers -/
theorem w_setClaim (i : Nat) {x : Str} {p : Pos} {ns : List Int} (he : PE X e (tR { Z with ex := l :: Z.ex } Γ (.ref l))) (h : Holds { Z with ex := l :: Z.ex } σ H Γ) (hl : H l = some (.lst (ns.map V.int))) (h0 : Z.h0 l = none) (hle : l ∉ Z.ex) (hlg : ∀ g ∈ Z.gs, l ∉ g.as)
    (k : ∀ σ' H', Ex H H' → Holds Z σ' H' (Γ.set i (.own 2 (ns.map D.int))) → wp X rest E σ' H')
    (hN : X.N.Nodup) (hi : X.N[i]? = some x := by rfl) (hx : Loc X.env.scope x := by first | exact .inl rfl | exact .inr rfl) (hf : X.fn x = true ∨ X.env.scope.names.lookup x = some .local := by first | exact .inl rfl | exact .inr rfl)
    (hs : swapsWith e (some (.Name x p)) pos.line X.env = pure false := by rfl) : wp X (.Assign [.Name x p] e pos :: rest) E σ H :=
  wp_cons (ps_asg he (pg_name hN hi hx hf) hs) ⟨h, fun H' ex => k _ H' ex ((h.grow ex).claim i (ex _ _ hl) h0 hle hlg (.ints _))⟩
end
end DL

set_option Elab.async false
set_option linter.all false
set_option maxRecDepth 100000
set_option maxHeartbeats 4000000
/-! M9: a shelf's objects. -/
namespace M
open PySem L2 DL
structure Sf where
  x : Addr
  C : Addr
  dx : Addr
  a : Addr
  b : Addr
  c : Addr
  sp : List Int
  sa : List Int
  t : Int
  ws : List V
def Sf.as (s : Sf) : List Addr := [s.x, s.a, s.b, s.c]
def Sf.fs (s : Sf) : List (Str × V) := [("spans", .ref s.a), ("sands", .ref s.b), ("gone", .int s.t), ("words", .ref s.c)]
structure ShO (O : Hp) (s : Sf) : Prop where
  x : O s.x = some (.ins s.C s.dx s.fs)
  a : O s.a = some (.lst (s.sp.map V.int))
  b : O s.b = some (.lst (s.sa.map V.int))
  c : O s.c = some (.lst s.ws)
  ab : s.a ≠ s.b
  ac : s.a ≠ s.c
  bc : s.b ≠ s.c
theorem ShO.mono {O O' : Hp} {s : Sf} (e : Ex O O') (h : ShO O s) : ShO O' s := ⟨e _ _ h.x, e _ _ h.a, e _ _ h.b, e _ _ h.c, h.ab, h.ac, h.bc⟩
theorem ShO.xa {O : Hp} {s : Sf} (h : ShO O s) : s.x ≠ s.a := fun e => by have := h.x; rw [e, h.a] at this; cases this
theorem ShO.xb {O : Hp} {s : Sf} (h : ShO O s) : s.x ≠ s.b := fun e => by have := h.x; rw [e, h.b] at this; cases this
theorem ShO.xc {O : Hp} {s : Sf} (h : ShO O s) : s.x ≠ s.c := fun e => by have := h.x; rw [e, h.c] at this; cases this
theorem ShO.has {O : Hp} {s : Sf} (h : ShO O s) : ∀ q ∈ s.as, O q ≠ none := fun q hq => by
  unfold Sf.as at hq
  have c : q = s.x ∨ q = s.a ∨ q = s.b ∨ q = s.c := by simpa using hq
  rcases c with z | z | z | z <;> rw [z]
  · rw [h.x]; simp
  · rw [h.a]; simp
  · rw [h.b]; simp
  · rw [h.c]; simp
theorem ShO.only {O : Hp} {s : Sf} (h : ShO O s) : ShO (only s.as O) s := by
  have q : ∀ q ∈ s.as, DL.only s.as O q = O q := fun q hq => only_at hq
  refine ⟨?_, ?_, ?_, ?_, h.ab, h.ac, h.bc⟩
  · rw [q _ (by simp [Sf.as])]; exact h.x
  · rw [q _ (by simp [Sf.as])]; exact h.a
  · rw [q _ (by simp [Sf.as])]; exact h.b
  · rw [q _ (by simp [Sf.as])]; exact h.c
/-- behind a call: what isn't the shelf's stays -/
structure ShAft (H H' : Hp) (s s' : Sf) : Prop where
  keep : ∀ q o, q ∉ s.as → H q = some o → H' q = some o
  has : ∀ q ∈ s.as, H' q ≠ none
  new : ∀ q ∈ s'.as, q ∈ s.as ∨ H q = none
  at_ : ShO H' s'
/-- a shelf as it may be -/
structure ShG (s : Sf) : Prop where
  g : Gl s.sp
  s : St s.sp s.sa
theorem fs_spans (s : Sf) : s.fs.lookup ("spans" : Str) = some (.ref s.a) := rfl
theorem fs_sands (s : Sf) : s.fs.lookup ("sands" : Str) = some (.ref s.b) := rfl
theorem fs_gone (s : Sf) : s.fs.lookup ("gone" : Str) = some (.int s.t) := rfl
theorem fs_words (s : Sf) : s.fs.lookup ("words" : Str) = some (.ref s.c) := rfl
theorem put_sands (s : Sf) (b : Addr) : putF ("sands" : Str) (.ref b) s.fs = ({ s with b := b } : Sf).fs := rfl
theorem put_gone (s : Sf) (t : Int) : putF ("gone" : Str) (.int t) s.fs = ({ s with t := t } : Sf).fs := rfl
theorem turned_one {sp sa : List Int} (hl : sp.length = sa.length) {n : Nat} (h : n < sa.length) (h2 : n < sp.length) : turned sp sa [(n : Int)] = sa.set n (sp[n] - sa[n]) := by
  refine List.ext_getElem? fun k => ?_
  by_cases hk : k < sa.length
  · unfold turned
    rw [turned_at _ 0 sp sa k (by omega) hk, List.getElem?_set]
    by_cases e : n = k
    · subst e
      rw [if_pos (by simp), if_pos rfl, if_pos h]
    · rw [if_neg (by simp; omega), if_neg e, List.getElem?_eq_getElem hk]
  · rw [List.getElem?_eq_none (by unfold turned; rw [turnedFrom_len _ _ _ _ hl]; omega), List.getElem?_eq_none (by rw [List.length_set]; omega)]
end M

set_option Elab.async false
set_option linter.all false
set_option maxRecDepth 100000
set_option maxHeartbeats 4000000
/-! M10: lines of tales. -/
namespace M
open PySem L2 DL
inductive Wd | turn (g s : Int) | wait (t : Int)
def Wd.d : Wd → D
  | .turn g s => .tup [.str "turn", .int g, .int s]
  | .wait t => .tup [.str "wait", .int t]
def stepT (gs st : List Int) (g s : Int) : Option (List Int) := if 0 ≤ g ∧ g < (gs.length : Int) ∧ gs.getD g.toNat 0 - st.getD g.toNat 0 = s then some (st.set g.toNat s) else none
def stepW (st : List Int) (t : Int) : Option (List Int) := if far st = 0 ∨ far st ≠ t then none else some (there st)
def step (gs st : List Int) : Wd → Option (List Int)
  | .turn g s => stepT gs st g s
  | .wait t => stepW st t
theorem there_ln (st : List Int) : (there st).length = st.length := by
  unfold there; split <;> simp
def fw (gs : List Int) : List Wd → List Int → Nat → Int
  | [], _, _ => -1
  | w :: ws, st, k => match step gs st w with
    | none => (k : Int)
    | some st' => fw gs ws st' (k + 1)
def firstW (gs : List Int) (ws : List Wd) : Int := fw gs ws (zeros gs) 0
theorem step_turn {gs st st' : List Int} {g s : Int} (h : step gs st (.turn g s) = some st') : (0 ≤ g ∧ g < (gs.length : Int) ∧ gs.getD g.toNat 0 - st.getD g.toNat 0 = s) ∧ st' = st.set g.toNat s := by
  have h : (if 0 ≤ g ∧ g < (gs.length : Int) ∧ gs.getD g.toNat 0 - st.getD g.toNat 0 = s then some (st.set g.toNat s) else none) = some st' := h
  by_cases hc : 0 ≤ g ∧ g < (gs.length : Int) ∧ gs.getD g.toNat 0 - st.getD g.toNat 0 = s
  · rw [if_pos hc] at h
    exact ⟨hc, (Option.some.inj h).symm⟩
  · rw [if_neg hc] at h; cases h
theorem step_wait {gs st st' : List Int} {t : Int} (h : step gs st (.wait t) = some st') : (far st ≠ 0 ∧ far st = t) ∧ st' = there st := by
  have h : (if far st = 0 ∨ far st ≠ t then none else some (there st)) = some st' := h
  by_cases hc : far st = 0 ∨ far st ≠ t
  · rw [if_pos hc] at h; cases h
  · rw [if_neg hc] at h
    exact ⟨by omega, (Option.some.inj h).symm⟩
theorem step_len {gs st st' : List Int} {w : Wd} (h : step gs st w = some st') (hl : gs.length = st.length) : gs.length = st'.length := by
  cases w with
  | turn g s => rw [(step_turn h).2, List.length_set]; exact hl
  | wait t => rw [(step_wait h).2, there_ln]; exact hl
theorem fw_none {gs : List Int} {w : Wd} {ws : List Wd} {st : List Int} {k : Nat} (h : step gs st w = none) : fw gs (w :: ws) st k = (k : Int) := by
  unfold fw; rw [h]
theorem fw_some {gs : List Int} {w : Wd} {ws : List Wd} {st st' : List Int} {k : Nat} (h : step gs st w = some st') : fw gs (w :: ws) st k = fw gs ws st' (k + 1) := by
  conv => lhs; unfold fw
  rw [h]
theorem fw_lo (gs : List Int) : ∀ (ws : List Wd) (st : List Int) (k : Nat), fw gs ws st k = -1 ∨ ((k : Int) ≤ fw gs ws st k ∧ fw gs ws st k < (k : Int) + (ws.length : Int))
  | [], _, _ => .inl rfl
  | w :: ws, st, k => by
    cases h : step gs st w with
    | none => rw [fw_none h]; exact .inr ⟨Int.le_refl _, by simp only [List.length_cons]; omega⟩
    | some st' =>
      rw [fw_some h]
      rcases fw_lo gs ws st' (k + 1) with z | z
      · exact .inl z
      · exact .inr ⟨by omega, by simp only [List.length_cons]; omega⟩
theorem St.set1 {gs st : List Int} (h : St gs st) {n : Nat} {s : Int} (hn : n < gs.length) (e : gs.getD n 0 - st.getD n 0 = s) : St gs (st.set n s) := by
  refine ⟨by rw [List.length_set]; exact h.len, fun i h1 h2 => ?_⟩
  rw [List.length_set] at h1
  rw [List.getElem_set]
  split
  · rename_i e'
    subst e'
    rw [List.getD_eq_getElem?_getD, List.getElem?_eq_getElem hn, List.getD_eq_getElem?_getD, List.getElem?_eq_getElem h1] at e
    have := h.ok n h1 h2
    dsimp only [Option.getD] at e
    omega
  · exact h.ok i h1 h2
theorem step_st {gs st st' : List Int} {w : Wd} (hs : St gs st) (h : step gs st w = some st') : St gs st' := by
  cases w with
  | turn g s =>
    obtain ⟨hc, e⟩ := step_turn h
    rw [e]
    exact hs.set1 (by omega) hc.2.2
  | wait t => rw [(step_wait h).2]; exact hs.fall
/-- the law's own step -/
def lstepT (gs st : List Int) (g s : Int) : Option (List Int) := if 0 ≤ g ∧ g < (gs.length : Int) then if (lflip gs st [g]).getD g.toNat 0 = s then some (lflip gs st [g]) else none else none
def lstepW (st : List Int) (t : Int) : Option (List Int) := if lfar st = 99 ∨ lfar st ≠ t then none else some (lthere st)
def lstep (gs st : List Int) : Wd → Option (List Int)
  | .turn g s => lstepT gs st g s
  | .wait t => lstepW st t
theorem lstep_eq {gs st : List Int} (hg : ∀ g ∈ gs, 1 ≤ g ∧ g ≤ 12) (hs : St gs st) (w : Wd) : lstep gs st w = step gs st w := by
  cases w with
  | turn g s =>
    show lstepT gs st g s = stepT gs st g s
    unfold lstepT stepT
    by_cases hc : 0 ≤ g ∧ g < (gs.length : Int)
    · rw [if_pos hc]
      have hl : g.toNat < st.length := by rw [← hs.len]; omega
      have e : (lflip gs st [g]).getD g.toNat 0 = gs.getD g.toNat 0 - st.getD g.toNat 0 := by
        show (st.set g.toNat _).getD g.toNat 0 = _
        rw [List.getD_eq_getElem?_getD, List.getElem?_set_self hl]; rfl
      rw [e]
      by_cases h2 : gs.getD g.toNat 0 - st.getD g.toNat 0 = s
      · rw [if_pos h2, if_pos ⟨hc.1, hc.2, h2⟩]
        show some (st.set g.toNat _) = _
        rw [h2]
      · rw [if_neg h2, if_neg fun z => h2 z.2.2]
    · rw [if_neg hc, if_neg fun z => hc ⟨z.1, z.2.1⟩]
  | wait t =>
    show lstepW st t = stepW st t
    unfold lstepW stepW
    rcases far_both (hs.mem hg) with ⟨z1, z2⟩ | ⟨z1, z2, z3, z4⟩
    · rw [if_pos (.inl z2), if_pos (.inl z1)]
    · rw [← z1, z4]
      by_cases h2 : far st = t
      · rw [if_neg (by omega), if_neg (by omega)]
      · rw [if_pos (.inr h2), if_pos (.inr h2)]
def lfw (gs : List Int) : List Wd → List Int → Nat → Int
  | [], _, _ => -1
  | w :: ws, st, k => match lstep gs st w with
    | none => (k : Int)
    | some st' => lfw gs ws st' (k + 1)
theorem lfw_eq {gs : List Int} (hg : ∀ g ∈ gs, 1 ≤ g ∧ g ≤ 12) : ∀ (ws : List Wd) (st : List Int) (k : Nat), St gs st → lfw gs ws st k = fw gs ws st k
  | [], _, _, _ => rfl
  | w :: ws, st, k, hs => by
    unfold lfw fw
    rw [lstep_eq hg hs w]
    cases h : step gs st w with
    | none => rfl
    | some st' => exact lfw_eq hg ws st' (k + 1) (step_st hs h)
end M

set_option Elab.async false
set_option linter.all false
set_option maxRecDepth 100000
set_option maxHeartbeats 4000000
/-! DL39: calls that change hidden objects. -/
namespace DL
open PySem L2 M
theorem reg_keep {O O' : List Addr} {B H H' : Hp} (hO : ∀ a ∈ O', a ∈ O ∨ H a = none) (keep : ∀ q o, q ∉ O → H q = some o → ntb o → H' q = some o) : Ex (reg O B H) (reg O' B H') := fun a o e => by
  obtain ⟨h1, h2, h3, h4⟩ := reg_some4 e
  refine reg_has (fun z => ?_) h2 (keep _ _ h1 h3 h4) h4
  rcases hO a z with z | z
  · exact h1 z
  · rw [z] at h3; cases h3
theorem rg_keep {m : Nat} (hm : 1 ≤ m) {O O' : List Addr} {H0 H H' : Hp} (hO : ∀ a ∈ O', a ∈ O ∨ H a = none) (keep : ∀ q o, q ∉ O → H q = some o → ntb o → H' q = some o) : Ex (rg m O H0 H0 H) (rg m O' H0 H0 H') := by
  match m, hm with
  | 1, _ => exact reg_keep hO keep
  | 2, _ => exact reg_keep hO keep
  | _ + 3, _ => exact reg_keep hO keep
theorem GOk.keep {H0 H H' : Hp} {O O' ex ex' : List Addr} {g : GS} (h : GOk H0 O ex H g) (hO : ∀ a ∈ O', a ∈ O ∨ H a = none) (keep : ∀ q o, q ∉ O → H q = some o → ntb o → H' q = some o) (he : ∀ a ∈ g.as, a ∈ ex → a ∈ ex') (hs : ∀ a ∈ g.as, H' a = H a) : GOk H0 O' ex' H' g := by
  obtain ⟨h1, h2, h3⟩ := h
  refine ⟨fun a ha => he a ha (h1 a ha), h2, ?_⟩
  rw [only_eq hs]
  exact g.mono (rg_keep h2 hO keep) h3
section
variable {Z : Fr} {H H' : Hp} {σ : L2.St} {Γ : List SV} {as' : List Addr} {gs' : List GS} {j : Nat} {s s' : Sf} {T : Tb}
theorem Holds.change (h : Holds Z σ H Γ) (keep : ∀ q o, q ∉ Z.ex → H q = some o → ntb o → H' q = some o) (hz : noz Γ = true) (hx : ∀ a ∈ Z.ex, H' a ≠ none) (h0 : Ex Z.h0 H') (new : ∀ q ∈ as', (q ∈ Z.ex ∨ H q = none) ∧ H' q ≠ none)
    (hg : ∀ g ∈ gs', GOk Z.h0 ((as' ++ Z.ex) ++ owns σ Γ) (as' ++ Z.ex) H' g) (ha : Apart gs') : Holds { Z with ex := as' ++ Z.ex, gs := gs' } σ H' Γ := by
  have hO : ∀ a ∈ (as' ++ Z.ex) ++ owns σ Γ, a ∈ Z.O σ Γ ∨ H a = none := fun a ha => by
    rcases List.mem_append.mp ha with z | z
    · rcases List.mem_append.mp z with z | z
      · rcases (new a z).1 with y | y
        · exact .inl (List.mem_append_left _ y)
        · exact .inr y
      · exact .inl (List.mem_append_left _ z)
    · exact .inl (List.mem_append_right _ z)
  have keepO : ∀ q o, q ∉ Z.O σ Γ → H q = some o → ntb o → H' q = some o := fun q o hq => keep q o fun z => hq (List.mem_append_left _ z)
  refine ⟨fun B hB => ⟨?_, fun l hl => ?_⟩, fun l hl => ?_, h.len, h.nd, fun i o sv e1 e2 => ?_, hg, ha, h.fnt⟩
  · rcases hB with z | z
    · rw [z]; exact h0
    · intro a o q
      refine keep a o (fun y => ?_) ((h.ext B (.inr z)).1 a o q) (h.fnt B z a o q)
      rw [(h.ext B (.inr z)).2 a (List.mem_append_left _ y)] at q; cases q
  · rcases hO l hl with z | z
    · exact (h.ext B hB).2 l z
    · exact Ex.free (h.ext B hB).1 z
  · rcases List.mem_append.mp hl with z | z
    · refine ⟨(new l z).2, fun y => ?_⟩
      rcases (new l z).1 with w | w
      · exact (h.exd l w).2 y
      · obtain ⟨vs, e⟩ := h.own_at y
        rw [w] at e; cases e
    · exact ⟨hx l z, (h.exd l z).2⟩
  · have q := h.ok i o sv e1 e2
    have zz := noz_at hz e2
    cases sv with
    | any => trivial
    | raw v => exact q
    | dat m d =>
      obtain ⟨v, r1, r2⟩ := q
      have hm : 1 ≤ m := by
        rcases Nat.eq_zero_or_pos m with w | w
        · subst w; exact absurd rfl (zz.1 d)
        · exact w
      exact ⟨v, r1, r2.mono (rg_keep hm hO keepO)⟩
    | own m ds =>
      obtain ⟨l, vs, r1, r2, r3, r4⟩ := q
      have hm : 1 ≤ m := by
        rcases Nat.eq_zero_or_pos m with w | w
        · subst w; exact absurd rfl (zz.2 ds)
        · exact w
      have hl : l ∈ owns σ Γ := mem_owns.mpr ⟨i, m, ds, by rw [e1, r1], e2⟩
      exact ⟨l, vs, r1, keep l _ (fun y => (h.exd l y).2 hl) r2 trivial, r3, r4.mono (rg_keep hm hO keepO)⟩
/-- .. what is hidden told anew -/
theorem Holds.change2 {ex' : List Addr} (h : Holds Z σ H Γ) (keep : ∀ q o, q ∉ Z.ex → H q = some o → ntb o → H' q = some o) (hz : noz Γ = true) (h0 : Ex Z.h0 H') (new : ∀ q ∈ ex', (q ∈ Z.ex ∨ H q = none) ∧ H' q ≠ none)
    (hg : ∀ g ∈ gs', GOk Z.h0 (ex' ++ owns σ Γ) ex' H' g) (ha : Apart gs') : Holds { Z with ex := ex', gs := gs' } σ H' Γ := by
  have hO : ∀ a ∈ ex' ++ owns σ Γ, a ∈ Z.O σ Γ ∨ H a = none := fun a ha => by
    rcases List.mem_append.mp ha with z | z
    · rcases (new a z).1 with y | y
      · exact .inl (List.mem_append_left _ y)
      · exact .inr y
    · exact .inl (List.mem_append_right _ z)
  have keepO : ∀ q o, q ∉ Z.O σ Γ → H q = some o → ntb o → H' q = some o := fun q o hq => keep q o fun z => hq (List.mem_append_left _ z)
  refine ⟨fun B hB => ⟨?_, fun l hl => ?_⟩, fun l hl => ?_, h.len, h.nd, fun i o sv e1 e2 => ?_, hg, ha, h.fnt⟩
  · rcases hB with z | z
    · rw [z]; exact h0
    · intro a o q
      refine keep a o (fun y => ?_) ((h.ext B (.inr z)).1 a o q) (h.fnt B z a o q)
      rw [(h.ext B (.inr z)).2 a (List.mem_append_left _ y)] at q; cases q
  · rcases hO l hl with z | z
    · exact (h.ext B hB).2 l z
    · exact Ex.free (h.ext B hB).1 z
  · refine ⟨(new l hl).2, fun y => ?_⟩
    rcases (new l hl).1 with w | w
    · exact (h.exd l w).2 y
    · obtain ⟨vs, e⟩ := h.own_at y
      rw [w] at e; cases e
  · have q := h.ok i o sv e1 e2
    have zz := noz_at hz e2
    cases sv with
    | any => trivial
    | raw v => exact q
    | dat m d =>
      obtain ⟨v, r1, r2⟩ := q
      have hm : 1 ≤ m := by
        rcases Nat.eq_zero_or_pos m with w | w
        · subst w; exact absurd rfl (zz.1 d)
        · exact w
      exact ⟨v, r1, r2.mono (rg_keep hm hO keepO)⟩
    | own m ds =>
      obtain ⟨l, vs, r1, r2, r3, r4⟩ := q
      have hm : 1 ≤ m := by
        rcases Nat.eq_zero_or_pos m with w | w
        · subst w; exact absurd rfl (zz.2 ds)
        · exact w
      have hl : l ∈ owns σ Γ := mem_owns.mpr ⟨i, m, ds, by rw [e1, r1], e2⟩
      exact ⟨l, vs, r1, keep l _ (fun y => (h.exd l y).2 hl) r2 trivial, r3, r4.mono (rg_keep hm hO keepO)⟩
/-- a shelf's objects, hidden -/
def gSh (s : Sf) : GS where
  as := s.as
  m := 1
  P := fun _ O => ShO O s
  mono := fun _ h => h
theorem Holds.shO (h : Holds Z σ H Γ) (hg : gSh s ∈ Z.gs) : ShO H s := ((h.gok _ hg).2.2).mono only_le
/-- behind a method's call -/
theorem Holds.aft (h : Holds Z σ H Γ) (hj : Z.gs[j]? = some (gSh s)) (a : ShAft H H' s s') (hz : noz Γ = true) : Holds { Z with ex := s'.as ++ Z.ex, gs := Z.gs.set j (gSh s') } σ H' Γ := by
  have hg : gSh s ∈ Z.gs := List.mem_of_getElem? hj
  have sx : ∀ q ∈ s.as, q ∈ Z.ex := (h.gok _ hg).1
  have hjl : j < Z.gs.length := (List.getElem?_eq_some_iff.mp hj).1
  have hjg : Z.gs[j] = gSh s := by
    have := List.getElem?_eq_getElem hjl
    rw [hj] at this; exact (Option.some.inj this).symm
  have new : ∀ q ∈ s'.as, (q ∈ Z.ex ∨ H q = none) ∧ H' q ≠ none := fun q hq => ⟨(a.new q hq).imp (sx q) id, a.at_.has q hq⟩
  have keep : ∀ q o, q ∉ Z.ex → H q = some o → ntb o → H' q = some o := fun q o hq ho _ => a.keep q o (fun z => hq (sx q z)) ho
  have far : ∀ g ∈ Z.gs, (∀ q ∈ g.as, q ∉ s.as) → ∀ q ∈ g.as, q ∉ s'.as := fun g hgm hap q hq hq' => by
    rcases a.new q hq' with z | z
    · exact hap q hq z
    · exact (h.exd q ((h.gok g hgm).1 q hq)).1 z
  have ap := List.pairwise_iff_getElem.mp h.gap
  refine h.change keep hz (fun q hq => ?_) (fun q o hq => ?_) new (fun g hgm => ?_) ?_
  · by_cases z : q ∈ s.as
    · exact a.has q z
    · cases e : H q with
      | none => exact absurd e (h.exd q hq).1
      | some o => rw [a.keep q o z e]; simp
  · refine a.keep q o (fun z => ?_) (h.h0x q o hq)
    rw [(h.ext _ (.inl rfl)).2 q (List.mem_append_left _ (sx q z))] at hq; cases hq
  · obtain ⟨n, hn', rfl⟩ := List.mem_iff_getElem.mp hgm
    rw [List.getElem_set]
    split
    · refine ⟨fun q hq => List.mem_append_left _ hq, Nat.le_refl _, ?_⟩
      exact a.at_.only
    · rename_i hjn
      rw [List.length_set] at hn'
      have hap : ∀ q ∈ (Z.gs[n]).as, q ∉ s.as := fun q hq hq' => by
        rcases Nat.lt_or_gt_of_ne hjn with w | w
        · have z := ap j n hjl hn' w
          rw [hjg] at z
          exact z q hq' hq
        · have z := ap n j hn' hjl w
          rw [hjg] at z
          exact z q hq hq'
      refine (h.gok _ (List.getElem_mem hn')).keep (fun q hq => ?_) (fun q o hq ho _ => a.keep q o (fun z => hq (List.mem_append_left _ (sx q z))) ho) (fun q _ hq => List.mem_append_right _ hq) fun q hq => ?_
      · rcases List.mem_append.mp hq with z | z
        · rcases List.mem_append.mp z with z | z
          · rcases (new q z).1 with y | y
            · exact .inl (List.mem_append_left _ y)
            · exact .inr y
          · exact .inl (List.mem_append_left _ z)
        · exact .inl (List.mem_append_right _ z)
      · cases e : H q with
        | none => exact absurd e (h.exd q ((h.gok _ (List.getElem_mem hn')).1 q hq)).1
        | some o => exact a.keep q o (hap q hq) e
  · refine List.pairwise_iff_getElem.mpr fun n1 n2 q1 q2 q => ?_
    rw [List.length_set] at q1 q2
    have z := ap n1 n2 q1 q2 q
    rw [List.getElem_set, List.getElem_set]
    split
    · rename_i w1
      subst w1
      rw [hjg] at z
      rw [if_neg (by omega)]
      intro b hb hb'
      exact far _ (List.getElem_mem q2) (fun q hq hq' => z q hq' hq) b hb' hb
    · split
      · rename_i w2
        subst w2
        rw [hjg] at z
        exact fun b hb hb' => far _ (List.getElem_mem q1) z b hb hb'
      · exact z
/-- no table, no code object -/
def plo : HO → Prop
  | .tbl _ => False
  | .ext _ => False
  | _ => True
theorem plo_nt {o : HO} (h : plo o) : ntb o := by cases o <;> first | trivial | exact h.elim
/-- behind a call that may write the tables: more is hidden than these -/
theorem Holds.afterT2 (h : Holds Z σ H Γ) (hg : gTab T ∈ Z.gs) (hex : ∀ a ∈ Z.ex, a ∈ T.map (·.1) ∨ ∃ o, H a = some o ∧ plo o) (hgs : ∀ g ∈ Z.gs, g = gTab T ∨ ∀ a ∈ g.as, ∃ o, H a = some o ∧ plo o) (hnt : ∀ a o, Z.h0 a = some o → ntb o) (e : ExT H H') (t : LamX.Tabs T H') : Holds Z σ H' Γ := by
  have tb : ∀ a ∈ T.map (·.1), ∃ ps, H' a = some (.tbl ps) := fun a ha => by
    obtain ⟨p, hp, rfl⟩ := List.mem_map.mp ha
    obtain ⟨ps, h1, _⟩ := t p hp
    exact ⟨ps, h1⟩
  have q := h.growT (gs' := Z.gs) e (fun a ha => by
    rcases hex a ha with z | ⟨o, z1, z2⟩
    · obtain ⟨ps, w⟩ := tb a z; rw [w]; simp
    · rw [e a o z1 (plo_nt z2)]; simp) (fun a o z => e a o (h.h0x a o z) (hnt a o z)) (fun g hgm => by
    rcases hgs g hgm with rfl | z
    · refine tabs_ok t (fun p hp => (h.gok _ hg).1 _ (List.mem_map.mpr ⟨p, hp, rfl⟩)) fun c qn hc hO => ?_
      have nop : ∀ o, H c = some o → plo o → False := fun o z1 z2 => by
        have := e c o z1 (plo_nt z2)
        rw [hc] at this
        cases this
        unfold LamX.CodeO at z2
        exact z2
      rcases List.mem_append.mp hO with z | z
      · rcases hex c z with y | ⟨o, y1, y2⟩
        · obtain ⟨ps, w⟩ := tb c y
          rw [hc] at w
          unfold LamX.CodeO at w
          cases w
        · exact nop o y1 y2
      · obtain ⟨vs, w⟩ := h.own_at z
        exact nop _ w trivial
    · refine (h.gok g hgm).keep (fun a ha => .inl ha) (fun q o _ ho hn => e q o ho hn) (fun a _ ha => ha) fun a ha => ?_
      obtain ⟨o, z1, z2⟩ := z a ha
      rw [z1]; exact e a o z1 (plo_nt z2)) h.gap
  exact q
end
end DL

set_option Elab.async false
set_option linter.all false
set_option maxRecDepth 100000
set_option maxHeartbeats 4000000
/-! DL40: calls whose outcome is told by a promise; a def's start with hidden things. -/
namespace DL
open PySem L2 M
/-- a call: what it promises at any later heap -/
def tQ (Z : Fr) (Γ : List SV) (G : Hp → VK → Prop) : TE := fun σ H Q => Holds Z σ H Γ ∧ ∀ H1, Ex H H1 → Holds Z σ H1 Γ → G H1 Q
section
variable {X : Cx} {e a b o : Expr} {pos ap cp apos : Pos} {rest : List Stmt} {E : Ends} {σ : L2.St} {H H' : Hp} {Z : Fr} {Γ : List SV} {m ma mb i j k : Nat} {v w : V} {d da : D} {ds : List D} {as : List Addr} {B : Hp} {l x : Addr} {vs : List V} {C : Addr} {W : XK} {sp : Sp} {CX : CXT} {G : Hp → VK → Prop} {T : Tb}
/-- o.m() of a shelf -/
theorem e_mq0 {qual : Str} {st : Stmt} {ps : List Str} {mm : Str} {pl : Sem Bool} {s : Sf} (M : Mth X.K C mm qual st ps) (c : Cls X.K C) (F : FnOk X.prog X.w X.K X.mg X.base CX k M.f M.fd ps sp) (hr : Room j X.A) (hx : Passes CX X W) (he : PE X o (tR Z Γ (.ref s.x))) (hg : gSh s ∈ Z.gs) (hC : s.C = C) (hk : k ≤ j := by decide) (hl : s.fs.lookup mm = none := by rfl)
    (ht : eval (.Call (.Attribute o mm apos) [] [] pos) X.env = (do
      let ov ← eval o X.env
      standAt apos.atName
      let (f, first) ← holding [ov] (getMethod ov mm pl)
      callWith pos f first (backTo pos (starEach [] X.env)) (backToKw pos (keywordEach [] X.env))) := by rfl) : PE X (.Call (.Attribute o mm apos) [] [] pos) (tQ Z Γ fun H1 Q => sp [.ref s.x] H1 Q W) :=
  pe_imp (pe_meth0 he c M.m F (hr.mono hk) M.b .nil hx ht) fun σ H Q h => ⟨h.1, fun H1 e1 => by
    have h1 := h.1.grow e1
    have so := h1.shO hg
    exact ⟨s.x, s.dx, s.fs, rfl, by rw [← hC]; exact so.x, hl, h.2 H1 e1 h1⟩⟩
/-- o.m(a) of a shelf, a scalar -/
theorem e_mq1 {qual : Str} {st : Stmt} {ps : List Str} {mm : Str} {pl : Sem Bool} {s : Sf} (M : Mth X.K C mm qual st ps) (c : Cls X.K C) (F : FnOk X.prog X.w X.K X.mg X.base CX k M.f M.fd ps sp) (hr : Room j X.A) (hx : Passes CX X W) (he : PE X o (tR Z Γ (.ref s.x))) (hg : gSh s ∈ Z.gs) (hC : s.C = C) (ha : PE X a (tD Z Γ ma d)) (hd : sc d = some v) (hk : k ≤ j := by decide) (hl : s.fs.lookup mm = none := by rfl)
    (hst : starEach [a] X.env = (false, eval a X.env) :: starEach [] X.env := by rfl) (hpl : (backTo pos (starEach [] X.env)).any (·.1) = false := by rfl)
    (ht : eval (.Call (.Attribute o mm apos) [a] [] pos) X.env = (do
      let ov ← eval o X.env
      standAt apos.atName
      let (f, first) ← holding [ov] (getMethod ov mm pl)
      callWith pos f first (backTo pos (starEach [a] X.env)) (backToKw pos (keywordEach [] X.env))) := by rfl) : PE X (.Call (.Attribute o mm apos) [a] [] pos) (tQ Z Γ fun H1 Q => sp [.ref s.x, v] H1 Q W) :=
  pe_imp (pe_meth he c M.m F (hr.mono hk) M.b .nil hx (pa_cons ha pa_nil hst) hst hpl ht) fun σ H Q h => ⟨h.1, fun H1 e1 => by
    have h1 := h.1.grow e1
    have so := h1.shO hg
    refine ⟨s.x, s.dx, s.fs, rfl, by rw [← hC]; exact so.x, hl, h1, fun u H2 e2 r => ?_⟩
    rw [rep_sc hd r]
    exact h.2 H2 (e1.trans e2) (h1.grow e2)⟩
/-- a promise that gives a datum -/
theorem d_ofQ (he : PE X e (tQ Z Γ G)) (hG : ∀ H Q, (∀ s, gSh s ∈ Z.gs → ShO H s) → (∀ v H', Ex H H' → Rep (reg [] H H') v d → Q v H') → G H Q) : PE X e (tD Z Γ 3 d) :=
  pe_imp he fun σ H Q h => ⟨h.1, fun H1 e1 h1 => hG H1 _ (fun s hg => h1.shO hg) fun v H2 e2 r => h.2 v H2 (e1.trans e2) (r.mono (rg_fresh h1.dom h1.h0x e1))⟩
/-- x = a call -/
theorem w_setQ (i : Nat) {x : Str} {p : Pos} (he : PE X e (tQ Z Γ G)) (h : Holds Z σ H Γ) (k : ∀ H1, Ex H H1 → Holds Z σ H1 Γ → G H1 fun v H' => wp X rest E (σ.set i (some v)) H')
    (hN : X.N.Nodup) (hi : X.N[i]? = some x := by rfl) (hx : Loc X.env.scope x := by first | exact .inl rfl | exact .inr rfl) (hf : X.fn x = true ∨ X.env.scope.names.lookup x = some .local := by first | exact .inl rfl | exact .inr rfl)
    (hs : swapsWith e (some (.Name x p)) pos.line X.env = pure false := by rfl) : wp X (.Assign [.Name x p] e pos :: rest) E σ H :=
  wp_cons (ps_asg he (pg_name hN hi hx hf) hs) ⟨h, k⟩
/-- x, y = a call, a scalar -/
theorem w_par2Q {x y : Str} {px py pt : Pos} {kt k2 : Nat} {pt2 : Pos} (i j : Nat) (ha : PE X a (tQ Z Γ G)) (hb : ∀ Z' : Fr, PE X b (tD Z' Γ mb d)) (hw' : sc d = some w) (h : Holds Z σ H Γ)
    (k : ∀ H1, Ex H H1 → Holds Z σ H1 Γ → G H1 fun v H2 => ∃ Z', Holds Z' σ H2 Γ ∧ ∀ H3, Ex H2 H3 → wp X rest E ((σ.set i (some v)).set j (some w)) H3) (hN : X.N.Nodup)
    (hc : X.calm = true := by rfl) (hi : X.N[i]? = some x := by rfl) (hj : X.N[j]? = some y := by rfl) (hij : i ≠ j := by decide) (hx : X.env.scope.names.lookup x = some .local := by rfl) (hy : X.env.scope.names.lookup y = some .local := by rfl)
    (hs1 : starEach [a, b] X.env = (false, eval a X.env) :: starEach [b] X.env := by rfl) (hs2 : starEach [b] X.env = (false, eval b X.env) :: starEach [] X.env := by rfl)
    (hw : swappedStores [.Tuple [.Name x px, .Name y py] kt pt] (.Tuple [a, b] k2 pt2) X.env = pure (some [x, y]) := by rfl)
    (hs : swapsWithSole [.Tuple [.Name x px, .Name y py] kt pt] (.Tuple [a, b] k2 pt2) pos.line X.env = pure false := by rfl) :
    wp X (.Assign [.Tuple [.Name x px, .Name y py] kt pt] (.Tuple [a, b] k2 pt2) pos :: rest) E σ H :=
  wp_cons (ps_par hc hN hi hj hij hx hy (ta := tWs X [a, b]) (pa_cons wE_ok (pa_cons wE_ok pa_nil hs2) hs1) hw hs) ⟨_, pe_strong ha, fun v H2 => ∃ Z', Holds Z' σ H2 Γ ∧ ∀ H3, Ex H2 H3 → wp X rest E ((σ.set i (some v)).set j (some w)) H3, fun v H2 ⟨Z', h2, q⟩ => ⟨_, hb Z', h2, fun u H3 e3 r => by
    rw [rep_sc hw' r]
    exact ⟨v, w, rfl, q H3 e3⟩⟩, h, k⟩
/-- a lambda whose call raises, read: True comes, the tables may be written; more is hidden than these -/
theorem lam_true2 {C : Addr} {Q : VK} (hg : gTab T ∈ Z.gs) (hex : ∀ H, Holds Z σ H Γ → ∀ a ∈ Z.ex, a ∈ T.map (·.1) ∨ ∃ o, H a = some o ∧ plo o) (hgs : ∀ H, Holds Z σ H Γ → ∀ g ∈ Z.gs, g = gTab T ∨ ∀ a ∈ g.as, ∃ o, H a = some o ∧ plo o) (hnt : ∀ a o, Z.h0 a = some o → ntb o) (h : Holds Z σ H Γ) (q : ∀ H', Holds Z σ H' Γ → Q (.bl true) H') : LamX.tLam T (TIdle C) (fun E => tX Z Γ E (.inl C)) σ H Q :=
  ⟨h.tabs hg, fun H1 e1 t1 => by
    have h1 : Holds Z σ H1 Γ := h.afterT2 hg (hex H h) (hgs H h) hnt (fun a o z k => e1 a o z fun ps w => by rw [w] at k; exact k) t1
    exact ⟨h1, fun H' ex => ⟨rfl, rfl, q H' (h1.grow ex)⟩⟩⟩
end
/-- slots at a def's start -/
inductive StS (ex : List Addr) (H : Hp) : List V → List SV → Prop
  | nil : StS ex H [] []
  | raw {v : V} {vs : List V} {Γ : List SV} : StS ex H vs Γ → StS ex H (v :: vs) (.raw v :: Γ)
  | dat {v : V} {d : D} {vs : List V} {Γ : List SV} : Rep (reg ex hn H) v d → StS ex H vs Γ → StS ex H (v :: vs) (.dat 1 d :: Γ)
  | any {v : V} {vs : List V} {Γ : List SV} : StS ex H vs Γ → StS ex H (v :: vs) (.any :: Γ)
theorem StS.length {ex : List Addr} {H : Hp} {vs : List V} {Γ : List SV} (h : StS ex H vs Γ) : vs.length = Γ.length := by
  induction h with
  | nil => rfl
  | raw _ ih => exact congrArg (· + 1) ih
  | dat _ _ ih => exact congrArg (· + 1) ih
  | any _ ih => exact congrArg (· + 1) ih
theorem StS.noOwn {ex : List Addr} {H : Hp} {vs : List V} {Γ : List SV} (h : StS ex H vs Γ) (n : Nat) : noOwn (Γ ++ List.replicate n .any) = true := by
  induction h with
  | nil =>
    rw [List.nil_append]
    induction n with
    | zero => rfl
    | succ n ih => rw [List.replicate_succ]; exact ih
  | raw _ ih => exact ih
  | dat _ _ ih => exact ih
  | any _ ih => exact ih
theorem StS.at {ex : List Addr} {H : Hp} {vs : List V} {Γ : List SV} (h : StS ex H vs Γ) : ∀ (i : Nat) (v : V) (sv : SV), vs[i]? = some v → Γ[i]? = some sv → SOk (reg ex hn H) ex H (some v) sv := by
  induction h with
  | nil => intro i v sv e; simp at e
  | raw _ ih =>
    intro i v sv e1 e2
    cases i with
    | zero => simp at e1 e2; subst e1; subst e2; rfl
    | succ i => exact ih i v sv (by simpa using e1) (by simpa using e2)
  | dat r _ ih =>
    intro i v sv e1 e2
    cases i with
    | zero => simp at e1 e2; subst e1; subst e2; exact ⟨_, rfl, r⟩
    | succ i => exact ih i v sv (by simpa using e1) (by simpa using e2)
  | any _ ih =>
    intro i v sv e1 e2
    cases i with
    | zero => simp at e1 e2; subst e2; trivial
    | succ i => exact ih i v sv (by simpa using e1) (by simpa using e2)
abbrev frE (ex : List Addr) (gs : List GS) (H : Hp) : Fr := { h0 := reg ex hn H, ex := ex, gs := gs }
/-- a def's start, things hidden -/
theorem holds_startE {N : List Str} {vs : List V} {Γ : List SV} {ex : List Addr} {gs : List GS} {H : Hp} (s : StS ex H vs Γ) (hN : vs.length ≤ N.length) (hx : ∀ a ∈ ex, H a ≠ none) (hg : ∀ g ∈ gs, GOk (reg ex hn H) ex ex H g) (ha : Apart gs) : Holds (frE ex gs H) (L2.start N vs) H (Γ ++ List.replicate (N.length - vs.length) .any) := by
  have no : owns (L2.start N vs) (Γ ++ List.replicate (N.length - vs.length) .any) = [] := noOwn_nil (s.noOwn _)
  have eO : (frE ex gs H).O (L2.start N vs) (Γ ++ List.replicate (N.length - vs.length) .any) = ex := by
    show ex ++ owns _ _ = _
    rw [no, List.append_nil]
  have hl := s.length
  refine ⟨fun B hB => ?_, fun l hl => ⟨hx l hl, by rw [no]; simp⟩, ?_, by rw [no]; exact List.nodup_nil, fun i o sv e1 e2 => ?_, fun g hgm => by rw [eO]; exact hg g hgm, ha, fun B hB => absurd hB (by simp)⟩
  · rcases hB with z | z
    · rw [z, eO]
      exact ⟨reg_le, fun l hl => show reg _ _ _ l = none by unfold reg; rw [if_pos (.inl hl)]⟩
    · cases z
  · unfold L2.start
    simp only [List.length_append, List.length_map, List.length_replicate]
    omega
  · rw [eO]
    unfold L2.start at e1
    by_cases hi : i < vs.length
    · rw [List.getElem?_append_left (by rw [List.length_map]; exact hi), List.getElem?_map, List.getElem?_eq_getElem hi] at e1
      rw [List.getElem?_append_left (by omega)] at e2
      have e1 : some (some vs[i]) = some o := e1
      cases e1
      exact s.at i _ sv (List.getElem?_eq_getElem hi) e2
    · rw [List.getElem?_append_right (by omega), List.getElem?_replicate] at e2
      split at e2
      · cases e2; trivial
      · cases e2
end DL

set_option Elab.async false
set_option linter.all false
set_option maxRecDepth 100000
set_option maxHeartbeats 4000000
/-! DL41: a field that is a new list of numbers. -/
namespace DL
open PySem L2 M
section
variable {X : Cx} {e a b o : Expr} {pos : Pos} {rest : List Stmt} {E : Ends} {σ : L2.St} {H H' : Hp} {Z : Fr} {Γ : List SV} {m ma mb i j k : Nat} {v w : V} {d da : D} {ds : List D} {as : List Addr} {B : Hp} {l : Addr} {vs : List V}
/-- a scalar as a known value -/
theorem r_ofD (he : PE X e (tD Z Γ m d)) (hd : sc d = some v) : PE X e (tR Z Γ v) := pe_imp he fun σ H Q h => ⟨h.1, fun w H1 e1 r => by rw [rep_sc hd r]; exact h.2 H1 e1⟩
theorem w_fldL {x C dx : Addr} {fs : List (Str × V)} {f : Str} {value : Expr} {pos' : Pos} {ns : List Int} (j : Nat) (hj : Z.gs[j]? = some (gH as B)) (ho : PE X o (tR Z Γ (.ref x))) (he : PE X value (tD Z Γ 3 (dI ns))) (hx : B x = some (.ins C dx fs)) (c : Cls X.K C) (n : NoAttr X.K C f) (hl : fs.length < 1000) (h : Holds Z σ H Γ)
    (kk : ∀ l H', H l = none → Holds { Z with ex := [l] ++ Z.ex, gs := Z.gs.set j (gH ([l] ++ as) (upd (upd B l (.lst (ns.map V.int))) x (.ins C dx (putF f (.ref l) fs)))) } σ H' Γ → wp X rest E σ H') (hz : noz Γ = true := by rfl) (hs : swapsWith value (some (.Attribute o f pos')) pos.line X.env = pure false := by rfl) : wp X (.Assign [.Attribute o f pos'] value pos :: rest) E σ H :=
  wp_cons (ps_fld ho he hs) ⟨h, fun v H1 e1 rv => ⟨h.grow e1, fun H2 e2 => by
    obtain ⟨l, us, rfl, k1, k2⟩ := lst_inv rv
    have ev := k2.ints_inv
    subst ev
    obtain ⟨z1, z2, z3, z4⟩ := reg_some4 k1
    have e02 := e1.trans e2
    have hg : gH as B ∈ Z.gs := List.mem_of_getElem? hj
    have hjl : j < Z.gs.length := (List.getElem?_eq_some_iff.mp hj).1
    have hB2 := (h.grow e02).chunk hg
    have hB0 := h.chunk hg
    have l2 := e2 _ _ z3
    have hBl : B l = none := by
      cases q : B l with
      | none => rfl
      | some o' => have := (only_some (hB0 _ _ q)).2; rw [z2] at this; cases this
    have hxl : x ≠ l := fun q => by rw [q, hBl] at hx; cases hx
    have h3 := h.tell1 (as := [l]) (g' := gH ([l] ++ as) (upd B l (.lst (ns.map V.int)))) e02 hj (fun a ha => List.mem_append.mp ha) (fun a ha => by rw [List.mem_singleton.mp ha]; exact ⟨z2, by rw [l2]; simp⟩) (Nat.le_refl _) (fun a o z => by
      show only ([l] ++ as) H2 a = some o
      by_cases hq : a = l
      · subst hq
        rw [upd_same] at z
        rw [only_at (List.mem_append_left _ (List.mem_singleton.mpr rfl)), l2]; exact z
      · rw [upd_ne hq] at z
        obtain ⟨y1, y2⟩ := only_some (hB2 _ _ z)
        rw [only_at (List.mem_append_right _ y1)]; exact y2)
    have hx' : upd B l (.lst (ns.map V.int)) x = some (.ins C dx fs) := by rw [upd_ne hxl]; exact hx
    have h4 := h3.chunkSet (j := j) (List.getElem?_set_self hjl) (u' := .ins C dx (putF f (.ref l) fs)) hx' hz
    refine ⟨x, C, dx, fs, rfl, (only_some (hB2 _ _ hx)).2, c, n, hl, kk l _ z2 ?_⟩
    rw [show ({ Z with ex := [l] ++ Z.ex, gs := Z.gs.set j (gH ([l] ++ as) (upd B l (.lst (ns.map V.int)))) } : Fr).gs = Z.gs.set j (gH ([l] ++ as) (upd B l (.lst (ns.map V.int)))) from rfl, List.set_set] at h4
    exact h4⟩⟩
end
end DL

set_option Elab.async false
set_option linter.all false
set_option maxRecDepth 100000
set_option maxHeartbeats 4000000
/-! DL42: loops whose hidden things change; values told as data. -/
namespace DL
open PySem L2 M
/-- values told as data -/
def gV (m : Nat) (vs : List V) (ds : List D) : GS where
  as := []
  m := m
  P := fun R _ => RepL R vs ds
  mono := fun e h => h.mono e
theorem wp_mono {X : Cx} {sts : List Stmt} {D D' : Ends} {σ : L2.St} {H : Hp} (h : wp X sts D σ H) (n : ∀ σ H, D.nx σ H → D'.nx σ H) (b : ∀ σ H, D.bk σ H → D'.bk σ H) (c : ∀ σ H, D.ct σ H → D'.ct σ H) (r : ∀ v H, D.rt v H → D'.rt v H) : wp X sts D' σ H := by
  obtain ⟨t, p, q⟩ := h
  refine ⟨fun D' σ H => ∃ D : Ends, ((∀ σ H, D.nx σ H → D'.nx σ H) ∧ (∀ σ H, D.bk σ H → D'.bk σ H) ∧ (∀ σ H, D.ct σ H → D'.ct σ H) ∧ ∀ v H, D.rt v H → D'.rt v H) ∧ t D σ H, ⟨fun pins s σ H D' I ⟨D, ⟨n, b, c, r⟩, q⟩ => thn (p.run pins s σ H D I q) fun f s' z => ?_⟩, D, ⟨n, b, c, r⟩, q⟩
  cases f with
  | next => obtain ⟨σ', H', J, k⟩ := z; exact ⟨σ', H', J, n _ _ k⟩
  | brk => obtain ⟨σ', H', J, k⟩ := z; exact ⟨σ', H', J, b _ _ k⟩
  | cont => obtain ⟨σ', H', J, k⟩ := z; exact ⟨σ', H', J, c _ _ k⟩
  | ret u => obtain ⟨v, σ', H', J, rv, k⟩ := z; exact ⟨v, σ', H', J, rv, r _ _ k⟩
section
variable {X : Cx} {body rest : List Stmt} {pos : Pos} {E : Ends} {σ : L2.St} {H H' H0 : Hp} {Z : Fr} {Γ : List SV} {m i j k : Nat} {xs ds : List D} {tg iter e : Expr} {vs : List V} {s s' : Sf} {w v : V} {d : D}
theorem w_forF {S : Type} (p : Pat) (hi : PI X tg iter (tI Z Γ m xs)) (hm : 1 ≤ m) (hg : PG X tg (gP X.K p)) (hp : PassesOwn (model X.prog X.w) X.A X.env X.xe) (hc : X.calm = true) (h : Holds Z σ H Γ) (EX : S → List Addr) (G : S → List GS) (Γs : S → List SV) (I : Nat → S → Prop) (s0 : S) (hI : I 0 s0) (hG : G s0 = Z.gs) (hX : EX s0 = Z.ex)
    (h0 : ∀ Z' H', Holds Z' σ H' Γ → Holds Z' σ H' (Γs s0))
    (turn : ∀ (i : Nat) (d : DL.D) (s : S) (B : Hp) (σ' : L2.St) (H' : Hp), xs[i]? = some d → I i s → Holds { Z with fs := B :: Z.fs, ex := EX s, gs := G s } σ' H' (Γs s) → ∃ Γ1, bindP (min m 2) p d (Γs s) = some Γ1 ∧ ∀ σ1 H1, Holds { Z with fs := B :: Z.fs, ex := EX s, gs := G s } σ1 H1 Γ1 →
      wp X body { E with nx := fun σ2 H2 => ∃ s', I (i + 1) s' ∧ Holds { Z with fs := B :: Z.fs, ex := EX s', gs := G s' } σ2 H2 (Γs s'), ct := fun σ2 H2 => ∃ s', I (i + 1) s' ∧ Holds { Z with fs := B :: Z.fs, ex := EX s', gs := G s' } σ2 H2 (Γs s'), bk := fun σ' H' => wp X rest E σ' H' } σ1 H1)
    (after : ∀ s σ' H', I xs.length s → Holds { Z with ex := EX s, gs := G s } σ' H' (Γs s) → wp X rest E σ' H') (hs : ∀ x, foldedSetIterable iter X.env x = pure x := by intro _; rfl) : wp X (.For tg iter body [] pos :: rest) E σ H := by
  refine wp_cons (ps_for hp hc hi hg (pss_wp body) hs) ⟨h, fun J H1 e1 y => ?_⟩
  generalize hB : rg m (Z.O σ Γ) Z.h0 H H1 = B at y
  have hfr : Holds { Z with fs := B :: Z.fs, ex := EX s0, gs := G s0 } σ H1 Γ := by
    rw [hG, hX]
    exact (h.grow e1).frame (by rw [← hB]; exact rg_le) (by rw [← hB]; exact rg_off hm) (by rw [← hB]; exact fun _ _ => rg_nt)
  refine ⟨fun i n σ' H' => n = xs.length - i ∧ i ≤ xs.length ∧ ∃ s, I i s ∧ Holds { Z with fs := B :: Z.fs, ex := EX s, gs := G s } σ' H' (Γs s), ⟨xs.length, by simp, Nat.zero_le _, s0, hI, h0 _ _ hfr⟩, ?_⟩
  rintro i n σ' H' ⟨rfl, hi, s, is, p'⟩
  have st : Ex B H' := (p'.ext B (.inr List.mem_cons_self)).1
  obtain ⟨y1, y2⟩ := y i H' st
  by_cases hlt : i < xs.length
  · obtain ⟨hgo, hy⟩ := y1 xs[i] (List.getElem?_eq_getElem hlt)
    refine .inr ⟨hgo, fun σ2 H2 => ∃ s', I (i + 1) s' ∧ Holds { Z with fs := B :: Z.fs, ex := EX s', gs := G s' } σ2 H2 (Γs s'), fun σ2 H2 q => ⟨xs.length - (i + 1), by omega, rfl, hlt, q⟩, fun x H2 q => ?_⟩
    obtain ⟨e2, r⟩ := hy x H2 q
    have p2 := p'.grow e2
    have st2 : Ex B H2 := (p2.ext B (.inr List.mem_cons_self)).1
    obtain ⟨Γ1, hb, tn⟩ := turn i xs[i] s B σ' H2 (List.getElem?_eq_getElem hlt) is p2
    have rr := r (rg (min m 2) (EX s ++ owns σ' (Γs s)) Z.h0 Z.h0 H2) (reg_later hm hB.symm h.h0x st2 (fun l hl => (p2.ext B (.inr List.mem_cons_self)).2 l hl)) (rg_fresh p'.dom p'.h0x p'.h0x)
    exact gP_ok p2 rr hb fun σ1 h1 _ => tn σ1 H2 h1
  · have e : i = xs.length := by omega
    subst e
    refine .inl ⟨y2 (Nat.le_refl _), after s σ' H' is ?_⟩
    exact ⟨fun B' hB' => p'.ext B' (hB'.imp id (List.mem_cons_of_mem _)), p'.exd, p'.len, p'.nd, p'.ok, p'.gok, p'.gap, fun B' hB' => p'.fnt B' (List.mem_cons_of_mem _ hB')⟩
/-- if, both branches to one end -/
theorem w_ifJ {c : Expr} {as bs : List Stmt} {b : Bool} (J : L2.St → Hp → Prop) (hc : PT X c (tDT Z Γ b)) (h : Holds Z σ H Γ) (k1 : b = true → ∀ H', Ex H H' → Holds Z σ H' Γ → wp X as { E with nx := J } σ H') (k2 : b = false → ∀ H', Ex H H' → Holds Z σ H' Γ → wp X bs { E with nx := J } σ H') (kj : ∀ σ' H', J σ' H' → wp X rest E σ' H') :
    wp X (.If c as bs pos :: rest) E σ H :=
  w_if hc h (fun hb H' e h' => wp_mono (k1 hb H' e h') kj (fun _ _ z => z) (fun _ _ z => z) fun _ _ z => z) fun hb H' e h' => wp_mono (k2 hb H' e h') kj (fun _ _ z => z) (fun _ _ z => z) fun _ _ z => z
/-- less is hidden -/
theorem Holds.less {ex' : List Addr} (h : Holds Z σ H Γ) (sub : ∀ a ∈ ex', a ∈ Z.ex) (hg : ∀ g ∈ Z.gs, ∀ a ∈ g.as, a ∈ ex') : Holds { Z with ex := ex' } σ H Γ := by
  have hO : ∀ a ∈ ex' ++ owns σ Γ, a ∈ Z.O σ Γ ∨ H a = none := fun a ha => by
    rcases List.mem_append.mp ha with z | z
    · exact .inl (List.mem_append_left _ (sub a z))
    · exact .inl (List.mem_append_right _ z)
  refine ⟨fun B hB => ⟨(h.ext B hB).1, fun l hl => ?_⟩, fun l hl => h.exd l (sub l hl), h.len, h.nd, fun i o sv e1 e2 => (h.ok i o sv e1 e2).mono hO (Ex.refl _), fun g hgm => ?_, h.gap, h.fnt⟩
  · rcases List.mem_append.mp hl with z | z
    · exact (h.ext B hB).2 l (List.mem_append_left _ (sub l z))
    · exact (h.ext B hB).2 l (List.mem_append_right _ z)
  · obtain ⟨h1, h2, h3⟩ := h.gok g hgm
    exact ⟨fun a ha => hg g hgm a ha, h2, g.mono (rg_ex hO (Ex.refl _) (Ex.refl _)) h3⟩
/-- a new tuple of scalars, where no hidden thing is a tuple that is new -/
theorem Holds.newTup (h : Holds Z σ H' Γ) {xs : List D} (hs : scL xs = true) (r : Rep (reg [] H0 H') w (.tup xs)) (h0 : Ex Z.h0 H0) (hO : ∀ a ∈ Z.O σ Γ, H0 a ≠ none ∨ ∀ us, H' a ≠ some (.tup us)) (hm : m ≤ 2) : Rep (rg m (Z.O σ Γ) Z.h0 Z.h0 H') w (.tup xs) := by
  cases r with
  | tup h1 h2 =>
    obtain ⟨k1, k2, k3, k4⟩ := reg_some4 h1
    exact .tup (rg_in hm (fun z => by
      rcases hO _ z with y | y
      · exact y k2
      · exact y _ k3) (Ex.free h0 k2) k3 trivial) (scL_rep h2 hs _)
theorem Holds.vals (h : Holds Z σ H Γ) (hg : gV m vs ds ∈ Z.gs) : RepL (rg m (Z.O σ Γ) Z.h0 Z.h0 H) vs ds := (h.gok _ hg).2.2
/-- .. one more -/
theorem Holds.val1 (h : Holds Z σ H Γ) (hj : Z.gs[j]? = some (gV m vs ds)) (r : Rep (rg m (Z.O σ Γ) Z.h0 Z.h0 H) w d) : Holds { Z with gs := Z.gs.set j (gV m (vs ++ [w]) (ds ++ [d])) } σ H Γ := by
  have hg := List.mem_of_getElem? hj
  have q := h.tell1 (as := []) (g' := gV m (vs ++ [w]) (ds ++ [d])) (Ex.refl _) hj (fun a ha => by cases ha) (fun a ha => by cases ha) (h.gok _ hg).2.1 ((h.vals hg).append (.cons r .nil))
  exact q
end
end DL

set_option Elab.async false
set_option linter.all false
set_option maxRecDepth 100000
set_option maxHeartbeats 4000000
/-! DL43: a def's start with its code known. -/
namespace DL
open PySem L2 M
section
variable {P : Program} {w : World} {K : PySem.W.Frag} {mg : Str → Option Value} {base : Heap}
theorem Fun.okC {sp : Sp} {x qual : Str} {st : Stmt} {f : Addr} {fd : FuncData} {N ps : List Str} {k : Nat} (F : Fun K x qual st f fd) (S : FnScope N ps (defScope st)) (len : ∀ vs H Q E, sp vs H Q E → vs.length = ps.length)
    (hbody : ∀ (cdv : Value) (A : Around) (outer : List Env) (s : Shared) (H : Hp) (vs : List V) (Q : VK) (E : XK), fd.code = cdv → Room k (A.deeper (PyProof.Rows.envOfC qual (defScope st) s.heap.objs.size f cdv)) → sp vs H Q E →
      wp (cxOf CX0 P w K mg base N qual (defScope st) f cdv A outer s H E).nox (defBody st) { nx := fun _ H' => Q .non H', rt := Q } (L2.start N vs) H) : FnOk P w K mg base CX0 (k + 1) f fd ps sp := by
  obtain ⟨oc, od, kV, doc, pm, an, cdv, ct, osl, rfl, lk, hcd⟩ := F.ex
  refine fn_of lk hcd S len fun A outer s H vs Q E hr hsp => ?_
  obtain ⟨tt, h, q'⟩ := hbody cdv A outer s H vs Q E rfl hr hsp
  exact ⟨tt, h.nox, q'⟩
end
section
variable {H : Hp} {T : Tb} {s : Sf}
theorem sh_plo (h : ShO H s) : ∀ a ∈ s.as, ∃ o, H a = some o ∧ plo o := fun q hq => by
  unfold Sf.as at hq
  have c : q = s.x ∨ q = s.a ∨ q = s.b ∨ q = s.c := by simpa using hq
  rcases c with z | z | z | z <;> rw [z]
  · exact ⟨_, h.x, trivial⟩
  · exact ⟨_, h.a, trivial⟩
  · exact ⟨_, h.b, trivial⟩
  · exact ⟨_, h.c, trivial⟩
theorem sh_notup (h : ShO H s) : ∀ a ∈ s.as, ∀ us, H a ≠ some (.tup us) := fun q hq us e => by
  unfold Sf.as at hq
  have c : q = s.x ∨ q = s.a ∨ q = s.b ∨ q = s.c := by simpa using hq
  rcases c with z | z | z | z <;> rw [z] at e
  · rw [h.x] at e; cases e
  · rw [h.a] at e; cases e
  · rw [h.b] at e; cases e
  · rw [h.c] at e; cases e
theorem tab_sh (t : LamX.Tabs T H) (h : ShO H s) : ∀ a ∈ T.map (·.1), a ∉ s.as := fun a ha hq => by
  obtain ⟨p, hp, rfl⟩ := List.mem_map.mp ha
  obtain ⟨ps, h1, _⟩ := t p hp
  obtain ⟨o, h2, h3⟩ := sh_plo h _ hq
  rw [h1] at h2; cases h2
  exact h3
/-- the tables and a shelf, at a def's start -/
theorem gok_two {H0 : Hp} {vs : List V} {ds : List D} (t : LamX.Tabs T H) (h : ShO H s) (r : RepL (reg (T.map (·.1) ++ s.as) H0 H) vs ds) : ∀ g ∈ [gTab T, gSh s, gV 2 vs ds], GOk H0 (T.map (·.1) ++ s.as) (T.map (·.1) ++ s.as) H g := fun g hg => by
  rcases List.mem_cons.mp hg with z | hg
  · rw [z]
    refine tabs_ok t (fun p hp => List.mem_append_left _ (List.mem_map.mpr ⟨p, hp, rfl⟩)) fun c q hc hO => ?_
    rcases List.mem_append.mp hO with y | y
    · obtain ⟨p, hp, rfl⟩ := List.mem_map.mp y
      obtain ⟨ps, h1, _⟩ := t p hp
      rw [hc] at h1
      unfold LamX.CodeO at h1
      cases h1
    · obtain ⟨o, h2, h3⟩ := sh_plo h _ y
      rw [hc] at h2; cases h2
      unfold LamX.CodeO at h3
      exact h3
  · rcases List.mem_cons.mp hg with z | hg
    · rw [z]
      exact ⟨fun a ha => List.mem_append_right _ ha, Nat.le_refl _, h.only⟩
    · rw [List.mem_singleton.mp hg]
      exact ⟨fun a ha => (by cases ha), (show 1 ≤ 2 by decide), r⟩
theorem apart_two {vs : List V} {ds : List D} (t : LamX.Tabs T H) (h : ShO H s) : Apart [gTab T, gSh s, gV 2 vs ds] := by
  refine List.pairwise_cons.mpr ⟨fun g hg a ha => ?_, List.pairwise_cons.mpr ⟨fun g hg a ha => ?_, List.pairwise_singleton _ _⟩⟩
  · rcases List.mem_cons.mp hg with z | hg
    · rw [z]; exact tab_sh t h a ha
    · rw [List.mem_singleton.mp hg]; exact fun z => by cases z
  · rw [List.mem_singleton.mp hg]; exact fun z => by cases z
end
end DL

set_option Elab.async false
set_option linter.all false
set_option maxRecDepth 100000
set_option maxHeartbeats 4000000
/-! DL44: expressions that change what is told: from a state in A to one in B, with a known answer. -/
namespace DL
open PySem L2
abbrev SP := L2.St → Hp → Prop
def tV (v : V) (A B : SP) : TE := fun σ H Q => A σ H ∧ ∀ H', B σ H' → Q v H'
def tVT (b : Bool) (A B : SP) : TT := fun σ H Q => A σ H ∧ ∀ H', B σ H' → Q b H'
def tVA (vs : List V) (A B : SP) : TA := fun σ H Q => A σ H ∧ ∀ H', B σ H' → Q vs H'
/-- some state s in I, told by Zf -/
def HS {S : Type} (I : S → Prop) (Zf : S → Fr) (Γ : List SV) : SP := fun σ H => ∃ s, I s ∧ Holds (Zf s) σ H Γ
section
variable {X : Cx} {e a b c : Expr} {pos ap cp : Pos} {rest : List Stmt} {E : Ends} {σ : L2.St} {H H' : Hp} {Z : Fr} {Γ : List SV} {m ma mb : Nat} {v w : V} {d da : D} {S : Type} {I : S → Prop} {Zf : S → Fr} {A B C : SP} {es : List Expr} {vs : List V}
theorem HS.grow (h : HS I Zf Γ σ H) (e : Ex H H') : HS I Zf Γ σ H' := by
  obtain ⟨s, i, h⟩ := h
  exact ⟨s, i, h.grow e⟩
theorem v_d (hb : ∀ s, PE X e (tD (Zf s) Γ m d)) (hw : sc d = some v) : PE X e (tV v (HS I Zf Γ) (HS I Zf Γ)) :=
  ⟨fun pins s σ H Q J ⟨⟨g, i, h⟩, q⟩ => (hb g).run pins s σ H Q J ⟨h, fun u H' e r => by rw [rep_sc hw r]; exact q H' ⟨g, i, h.grow e⟩⟩⟩
theorem v_dI (hb : ∀ s, I s → PE X e (tD (Zf s) Γ m d)) (hw : sc d = some v) : PE X e (tV v (HS I Zf Γ) (HS I Zf Γ)) :=
  ⟨fun pins s σ H Q J ⟨⟨g, i, h⟩, q⟩ => (hb g i).run pins s σ H Q J ⟨h, fun u H' e r => by rw [rep_sc hw r]; exact q H' ⟨g, i, h.grow e⟩⟩⟩
theorem v_t {p : Bool} (hb : ∀ s, I s → PT X e (tDT (Zf s) Γ p)) : PT X e (tVT p (HS I Zf Γ) (HS I Zf Γ)) :=
  ⟨fun pins s σ H Q J ⟨⟨g, i, h⟩, q⟩ => (hb g i).run pins s σ H Q J ⟨h, fun H' e => q H' ⟨g, i, h.grow e⟩⟩⟩
theorem v_th {p : Bool} (hb : ∀ s, I s → PT X e (tDTH (Zf s) Γ p)) : PT X e (tVT p (HS I Zf Γ) (HS I Zf Γ)) :=
  ⟨fun pins s σ H Q J ⟨⟨g, i, h⟩, q⟩ => (hb g i).run pins s σ H Q J ⟨h, fun H' h' => q H' ⟨g, i, h'⟩⟩⟩
theorem v_nei {i j : Int} (ha : PE X a (tV (.int i) A B)) (hb : PE X b (tV (.int j) B C)) : PT X (.Compare a [.NotEq] [b] pos) (tVT (!decide (i = j)) A C) :=
  pt_imp (pt_cmpR op_ne ha hb (nm _ (by decide) (by decide))) fun σ H Q h => ⟨h.1, fun H1 h1 => ⟨h1, fun H2 h2 => rNe_hr H2 _ _ _ (.int i) (.int j) ⟨_, rfl, h.2 H2 h2⟩⟩⟩
theorem v_or {p q : Bool} {rs : List Expr} (ha : PT X a (tVT false A B)) (hb : PW X (.BoolOp .Or (b :: rs) pos) (tVT q B C)) : PW X (.BoolOp .Or (a :: b :: rs) pos) (tVT q A C) :=
  pw_imp (pw_or ha hb) fun σ H Q h => ⟨h.1, fun H1 h1 => iteF ⟨h1, h.2⟩⟩
theorem v_or1 {p : Bool} (h : PT X a (tVT p A B)) : PW X (.BoolOp .Or [a] pos) (tVT p A B) := pw_or1 h
theorem v_eq {p q : Bool} (h : PT X e (tVT p A B)) (k : p = q) : PT X e (tVT q A B) := k ▸ h
theorem v_not {p : Bool} (h : PT X a (tVT p A B)) : PT X (.UnaryOp .Not a pos) (tVT (!p) A B) := pt_imp (pt_not h) fun σ H Q h => ⟨h.1, fun H' e => h.2 H' e⟩
theorem w_ifV {b : Bool} {as bs : List Stmt} (hc : PT X c (tVT b A B)) (h : A σ H) (k1 : b = true → ∀ H', B σ H' → wp X as { E with nx := fun σ' H' => wp X rest E σ' H' } σ H') (k2 : b = false → ∀ H', B σ H' → wp X bs { E with nx := fun σ' H' => wp X rest E σ' H' } σ H') :
    wp X (.If c as bs pos :: rest) E σ H :=
  wp_cons (ps_if hc (pss_wp as) (pss_wp bs)) ⟨h, fun H' h' => by
    cases b with
    | true => exact iteT (k1 rfl H' h')
    | false => exact iteF (k2 rfl H' h')⟩
theorem va_nil : PA X [] (tVA [] A A) := pa_imp pa_nil fun σ H Q h => h.2 H h.1
theorem va_cons (h1 : PE X e (tV v A B)) (h2 : PA X es (tVA vs B C)) (hs : starEach (e :: es) X.env = (false, eval e X.env) :: starEach es X.env := by rfl) : PA X (e :: es) (tVA (v :: vs) A C) :=
  pa_imp (pa_cons h1 h2 hs) fun σ H Q h => ⟨h.1, fun H1 h1 => ⟨h1, h.2⟩⟩
/-- a new list of numbers to a name -/
theorem Holds.newL {ns : List Int} {p : Addr} (h : Holds Z σ H Γ) (i : Nat) (hp : H p = none) : Holds Z (σ.set i (some (.ref p))) (upd H p (.lst (ns.map V.int))) (Γ.set i (.dat 2 (dI ns))) := by
  have h1 := h.grow (Ex.new (o := .lst (ns.map V.int)) hp)
  refine h1.dat i (.lst (rg_in (Nat.le_refl 2) (fun z => ?_) ?_ upd_same trivial) (RepL.ints ns))
  · exact h.dom p z hp
  · exact Ex.free h.h0x hp
/-- x = [..] -/
theorem w_lstV {ns : List Int} (i : Nat) {x : Str} {p : Pos} (ha : PA X es (tVA (ns.map V.int) A (HS I Zf Γ))) (h : A σ H) (hsz : ns.length ≤ sizeLine) (k : ∀ σ' H', HS I Zf (Γ.set i (.dat 2 (dI ns))) σ' H' → wp X rest E σ' H')
    (hN : X.N.Nodup) (hi : X.N[i]? = some x := by rfl) (hx : Loc X.env.scope x := by first | exact .inl rfl | exact .inr rfl) (hf : X.fn x = true ∨ X.env.scope.names.lookup x = some .local := by first | exact .inl rfl | exact .inr rfl)
    {ls : Pos} (hs : swapsWith (.List es ls) (some (.Name x p)) pos.line X.env = pure false := by rfl) : wp X (.Assign [.Name x p] (.List es ls) pos :: rest) E σ H :=
  wp_cons (ps_asg (pe_lst ha) (pg_name hN hi hx hf) hs) ⟨h, fun H1 ⟨s, is, h1⟩ => ⟨by rw [List.length_map]; exact hsz, fun p hp => k _ _ ⟨s, is, h1.newL i hp⟩⟩⟩
/-- x = y + [..], y a slot's data -/
theorem w_catV {ns ms : List Int} (i j : Nat) {mj : Nat} {x y : Str} {p py pb ls : Pos} (hΓ : Γ[j]? = some (.dat mj (dI ms))) {I' : S → Prop} (ha : PA X es (tVA (ns.map V.int) (HS I Zf Γ) (HS I' Zf Γ))) (h : HS I Zf Γ σ H) (hsz : ns.length ≤ 1000) (hsz2 : ms.length ≤ 1000) (k : ∀ σ' H', HS I' Zf (Γ.set i (.dat 2 (dI (ms ++ ns)))) σ' H' → wp X rest E σ' H')
    (hN : X.N.Nodup) (hj : X.N[j]? = some y := by rfl) (hv : Vis X.env.scope y := by first | exact Or.inl rfl | exact Or.inr (Or.inl rfl) | exact Or.inr (Or.inr rfl)) (hi : X.N[i]? = some x := by rfl) (hx : Loc X.env.scope x := by first | exact .inl rfl | exact .inr rfl) (hf : X.fn x = true ∨ X.env.scope.names.lookup x = some .local := by first | exact .inl rfl | exact .inr rfl)
    (hd : (y == ("__debug__" : Str)) = false := by decide) (hcd : (y == ("__classdict__" : Str)) = false := by decide)
    (hs : swapsWith (.BinOp (.Name y py) .Add (.List es ls) pb) (some (.Name x p)) pos.line X.env = pure false := by rfl) : wp X (.Assign [.Name x p] (.BinOp (.Name y py) .Add (.List es ls) pb) pos :: rest) E σ H := by
  obtain ⟨s, is, h0⟩ := h
  obtain ⟨v, e1, r1⟩ := h0.rep_own j hΓ
  refine wp_cons (ps_asg (pe_op op_cat (pe_var hj hv hd hcd) (pe_lst ha)) (pg_name hN hi hx hf) hs) ⟨v, e1, ⟨s, is, h0⟩, fun H1 ⟨s', is', h1⟩ => ⟨by rw [List.length_map]; exact sz_of (by omega), fun q hq => ?_⟩⟩
  obtain ⟨v', e2, r2⟩ := h1.rep_own j hΓ
  rw [e1] at e2
  cases e2
  cases r2 with
  | lst k1 k2 =>
    rw [RepL.ints_inv k2] at k1
    have k1 := rg_le _ _ k1
    refine ⟨_, q, ms.map V.int, ns.map V.int, rfl, rfl, (Ex.new hq) _ _ k1, upd_same, by rw [List.length_map, List.length_map]; exact sz_of (by omega), fun p2 hp2 => ?_⟩
    have h2 := (h1.grow (Ex.new (o := .lst (ns.map V.int)) hq)).newL (ns := ms ++ ns) i hp2
    rw [List.map_append] at h2
    exact k _ _ ⟨s', is', h2⟩
end
end DL

set_option Elab.async false
set_option linter.all false
set_option maxRecDepth 100000
set_option maxHeartbeats 4000000
/-! DL45: x.insert(i, e); x, y = a new list over older items, a scalar; more is told. -/
namespace DL
open PySem L2
section
variable {X : Cx} {e a b ix : Expr} {pos : Pos} {rest : List Stmt} {E : Ends} {σ : L2.St} {H H' : Hp} {Z : Fr} {Γ : List SV} {m ma mb mi n : Nat} {v w : V} {d da : D} {ds : List D}
theorem w_ins (i : Nat) {x : Str} {xp ap cp : Pos} (hΓ : Γ[i]? = some (.own m ds)) (hix : PE X ix (tD Z Γ mi (.int (n : Int)))) (he : PE X e (tD Z Γ ma d)) (h : Holds Z σ H Γ) (k : ∀ H', Holds Z σ H' (Γ.set i (.own (min m (min ma 2)) (ds.take n ++ [d] ++ ds.drop n))) → wp X rest E σ H')
    (hz : ds.length < 1000000) (hn : n ≤ 1000000) (hnz : noz Γ = true := by rfl) (hm : 1 ≤ m := by decide) (hma : 1 ≤ ma := by decide) (hN : X.N[i]? = some x := by rfl) (hv : Vis X.env.scope x := by first | exact Or.inl rfl | exact Or.inr (Or.inl rfl) | exact Or.inr (Or.inr rfl))
    (hd : (x == ("__debug__" : Str)) = false := by decide) (hcd : (x == ("__classdict__" : Str)) = false := by decide) (hst : starEach [ix, e] X.env = (false, eval ix X.env) :: starEach [e] X.env := by rfl) (hst2 : starEach [e] X.env = (false, eval e X.env) :: starEach [] X.env := by rfl)
    (hfew : ((backTo cp (starEach (ix :: [e]) X.env)).all (fun x => !x.1) && (backToKw cp (keywordEach [] X.env)).all (fun x => x.1.isSome) && decide ((ix :: ([e] : List Expr)).length + ([] : List Keyword).length + (if ([] : List Keyword).isEmpty then 0 else 1) < 30)) = true := by rfl)
    (hline : (ap.endLine == cp.line) = true := by rfl) (hplain : (backTo cp (starEach [e] X.env)).any (·.1) = false := by rfl)
    (hs : swapsWith (.Call (.Attribute (.Name x xp) "insert" ap) [ix, e] [] cp) none pos.line X.env = pure false := by rfl) : wp X (.Expr (.Call (.Attribute (.Name x xp) "insert" ap) [ix, e] [] cp) pos :: rest) E σ H :=
  wp_cons (ps_expr (pe_bm PySem.F.plainAttrs_list PySem.F.slot_list_insert PySem.F.type_list_insert mt_insert (pe_var hN hv hd hcd) (pa_cons hix (pa_cons he pa_nil hst2) hst) rfl hfew hline hst hplain) hs) (by
    obtain ⟨l, vs, e1, e2, r⟩ := own_at h hΓ
    refine ⟨.ref l, e1, .inl ⟨rfl, _, .of e2⟩, h, fun u H0 ex0 ru => ?_⟩
    cases ru
    have h0 := h.grow ex0
    refine ⟨h0, fun v H' ex' rv => ?_⟩
    have ex := ex0.trans ex'
    have h' := h.grow ex
    have hlen : vs.length < sizeLine := by rw [r.length]; exact Nat.lt_of_lt_of_le hz (by decide)
    have r2 : Rep (rg (min m (min ma 2)) (Z.O σ Γ) Z.h0 Z.h0 H') v d := by
      have q := rv.mono (rg_down (m' := min m (min ma 2)) (by omega) h0.h0x)
      match hk : min m (min ma 2), (show min m (min ma 2) ≤ 2 by omega) with
      | 0, _ => rw [hk] at q; exact q
      | 1, _ => rw [hk] at q; exact q
      | 2, _ => rw [hk] at q; exact q
    have r1 : RepL (rg (min m (min ma 2)) (Z.O σ Γ) Z.h0 Z.h0 H') vs ds := (r.mono (rg_ex (fun _ z => .inl z) (Ex.refl _) ex)).mono (rg_down (Nat.min_le_left _ _) (Ex.refl _))
    refine ⟨l, vs, (n : Int), v, rfl, rfl, ex _ _ e2, hlen, by omega, by omega, k _ (h'.mutate hnz hΓ e1 (by omega) ?_)⟩
    rw [Int.toNat_natCast]
    exact ((r1.take n).append (.cons r2 .nil)).append (r1.drop n))
theorem w_par2N {x y : Str} {px py pt : Pos} {kt k2 : Nat} {pt2 : Pos} (i j : Nat) (ha : PE X a (tN Z Γ m ds)) (hb : PE X b (tD Z Γ mb d)) (hw' : sc d = some w) (h : Holds Z σ H Γ)
    (k : ∀ σ' H', Ex H H' → Holds Z σ' H' ((Γ.set i (.own (min m 2) ds)).set j (.dat 2 d)) → wp X rest E σ' H') (hN : X.N.Nodup)
    (hc : X.calm = true := by rfl) (hi : X.N[i]? = some x := by rfl) (hj : X.N[j]? = some y := by rfl) (hij : i ≠ j := by decide) (hx : X.env.scope.names.lookup x = some .local := by rfl) (hy : X.env.scope.names.lookup y = some .local := by rfl)
    (hs1 : starEach [a, b] X.env = (false, eval a X.env) :: starEach [b] X.env := by rfl) (hs2 : starEach [b] X.env = (false, eval b X.env) :: starEach [] X.env := by rfl)
    (hw : swappedStores [.Tuple [.Name x px, .Name y py] kt pt] (.Tuple [a, b] k2 pt2) X.env = pure (some [x, y]) := by rfl)
    (hs : swapsWithSole [.Tuple [.Name x px, .Name y py] kt pt] (.Tuple [a, b] k2 pt2) pos.line X.env = pure false := by rfl) :
    wp X (.Assign [.Tuple [.Name x px, .Name y py] kt pt] (.Tuple [a, b] k2 pt2) pos :: rest) E σ H :=
  wp_cons (ps_par hc hN hi hj hij hx hy (ta := tWs X [a, b]) (pa_cons wE_ok (pa_cons wE_ok pa_nil hs2) hs1) hw hs) ⟨_, ha, h, fun l vs H1 e1 n1 k1 r1 => ⟨_, hb, h.grow e1, fun u H2 e2 r2 => by
    rw [rep_sc hw' r2]
    have h2 := (h.setOwnN (ds := ds) (m := m) i (e1.trans e2) n1 (e2 _ _ k1) (r1.mono (rg_ex (fun _ z => .inl z) (Ex.refl _) e2))).dat (m := 2) j (sc_rep hw' _)
    exact ⟨.ref l, w, rfl, k _ _ (e1.trans e2) h2⟩⟩⟩
/-- values and data are told -/
theorem Holds.tellV (h : Holds Z σ H Γ) : Holds { Z with gs := Z.gs ++ [gV 2 [] []] } σ H Γ where
  ext := h.ext
  exd := h.exd
  len := h.len
  nd := h.nd
  ok := h.ok
  gok := fun g hg => by
    rcases List.mem_append.mp hg with z | z
    · exact h.gok g z
    · rw [List.mem_singleton.mp z]
      exact ⟨fun a ha => (nomatch ha), (by decide), RepL.nil⟩
  gap := apart_add h.gap fun g' _ a _ z => nomatch z
  fnt := h.fnt
end
end DL

set_option Elab.async false
set_option linter.all false
set_option maxRecDepth 100000
set_option maxHeartbeats 4000000
/-! DL46: while, what is told of hidden things going with the state; new tables read at once. -/
namespace DL
open PySem L2
section
variable {X : Cx} {body rest : List Stmt} {pos : Pos} {E : Ends} {σ : L2.St} {H H' : Hp} {Z : Fr} {Γ : List SV}
theorem w_whileZ {c : Expr} {S : Type} (G : S → List GS) (Γs : S → List SV) (μ : S → Nat) (I : S → Prop) (s0 : S) (hp : PassesOwn (model X.prog X.w) X.A X.env X.xe) (h : Holds { Z with gs := G s0 } σ H (Γs s0)) (hI : I s0)
    (turn : ∀ (s : S) (σ' : L2.St) (H' : Hp), I s → Holds { Z with gs := G s } σ' H' (Γs s) → ∃ b, PT X c (tDT { Z with gs := G s } (Γs s) b) ∧ (b = true → ∀ H1, Holds { Z with gs := G s } σ' H1 (Γs s) →
      wp X body { E with nx := fun σ2 H2 => ∃ s', I s' ∧ μ s' < μ s ∧ Holds { Z with gs := G s' } σ2 H2 (Γs s'), ct := fun σ2 H2 => ∃ s', I s' ∧ μ s' < μ s ∧ Holds { Z with gs := G s' } σ2 H2 (Γs s'), bk := fun σ' H' => wp X rest E σ' H' } σ' H1) ∧
      (b = false → ∀ H1, Holds { Z with gs := G s } σ' H1 (Γs s) → wp X rest E σ' H1)) : wp X (.While c body [] pos :: rest) E σ H := by
  refine wp_cons (ps_while (tc := fun σ H Q => ∃ t, PT X c t ∧ t σ H Q) hp ⟨fun pins s σ H Q I ⟨t, h, q⟩ => h.run pins s σ H Q I q⟩ (pss_wp body)) ?_
  refine ⟨fun n σ' H' => ∃ s, n = μ s ∧ I s ∧ Holds { Z with gs := G s } σ' H' (Γs s), ⟨_, s0, rfl, hI, h⟩, ?_⟩
  rintro n σ' H' ⟨s, rfl, is, hs⟩
  obtain ⟨b, hc, k1, k2⟩ := turn s σ' H' is hs
  refine ⟨_, hc, hs, fun H1 e1 => ?_⟩
  cases b with
  | true =>
    refine iteT ⟨fun σ2 H2 => ∃ s', I s' ∧ μ s' < μ s ∧ Holds { Z with gs := G s' } σ2 H2 (Γs s'), fun σ2 H2 q => ?_, k1 rfl H1 (hs.grow e1)⟩
    obtain ⟨s', i', lt, q⟩ := q
    exact ⟨_, lt, s', rfl, i', q⟩
  | false => exact iteF (k2 rfl H1 (hs.grow e1))
end
section
variable {R R' O : Hp} {l : Addr} {td : List Addr} {n : Nat}
theorem tabAt_any (t : TabAt R O l td (List.replicate n [])) : TabAt R' O l td (List.replicate n []) :=
  ⟨t.1, t.2.1, t.2.2.1, fun i d row hd hr => by
    obtain ⟨kvs, k1, k2, k3⟩ := t.2.2.2 i d row hd hr
    have e : row = [] := by
      rw [List.getElem?_replicate] at hr
      by_cases z : i < n
      · rw [if_pos z] at hr; cases hr; rfl
      · rw [if_neg z] at hr; cases hr
    subst e
    cases kvs with
    | nil => exact ⟨[], k1, rfl, .nil⟩
    | cons a b => cases k2⟩
theorem TabAt.mono {rows : List Row} (t : TabAt R O l td rows) (e : Ex R R') : TabAt R' O l td rows :=
  ⟨t.1, t.2.1, t.2.2.1, fun i d row hd hr => by
    obtain ⟨kvs, k1, k2, k3⟩ := t.2.2.2 i d row hd hr
    exact ⟨kvs, k1, k2, k3.mono e⟩⟩
theorem TabAt.has {rows : List Row} {H : Hp} (t : TabAt R (only (l :: td) H) l td rows) : ∀ a ∈ l :: td, H a ≠ none ∧ ∀ us, H a ≠ some (.tup us) := fun a ha => by
  rcases List.mem_cons.mp ha with q | q
  · have := (only_some t.1).2
    rw [q, this]; exact ⟨by simp, fun us => by simp⟩
  · obtain ⟨n, hn, rfl⟩ := List.mem_iff_getElem.mp q
    have hn2 : n < rows.length := by rw [← t.2.1]; exact hn
    obtain ⟨kvs, k1, _⟩ := t.2.2.2 n td[n] rows[n] (List.getElem?_eq_getElem hn) (List.getElem?_eq_getElem hn2)
    have := (only_some k1).2
    rw [this]; exact ⟨by simp, fun us => by simp⟩
end
section
theorem StS.at2 {H0 : Hp} {ex : List Addr} {H : Hp} {vs : List V} {Γ : List SV} (h : StS ex H vs Γ) : ∀ (i : Nat) (v : V) (sv : SV), vs[i]? = some v → Γ[i]? = some sv → SOk H0 ex H (some v) sv := by
  induction h with
  | nil => intro i v sv e; simp at e
  | raw _ ih =>
    intro i v sv e1 e2
    cases i with
    | zero => simp at e1 e2; subst e1; subst e2; rfl
    | succ i => exact ih i v sv (by simpa using e1) (by simpa using e2)
  | dat r _ ih =>
    intro i v sv e1 e2
    cases i with
    | zero => simp at e1 e2; subst e1; subst e2; exact ⟨_, rfl, r⟩
    | succ i => exact ih i v sv (by simpa using e1) (by simpa using e2)
  | any _ ih =>
    intro i v sv e1 e2
    cases i with
    | zero => simp at e1 e2; subst e1; subst e2; trivial
    | succ i => exact ih i v sv (by simpa using e1) (by simpa using e2)
abbrev frO (ex : List Addr) (gs : List GS) (H : Hp) : Fr := { h0 := offs ex H, ex := ex, gs := gs }
/-- a def's start, things hidden; all else stays, tables too -/
theorem holds_startO {N : List Str} {vs : List V} {Γ : List SV} {ex : List Addr} {gs : List GS} {H : Hp} (s : StS ex H vs Γ) (hN : vs.length ≤ N.length) (hx : ∀ a ∈ ex, H a ≠ none) (hg : ∀ g ∈ gs, GOk (offs ex H) ex ex H g) (ha : Apart gs) : Holds (frO ex gs H) (L2.start N vs) H (Γ ++ List.replicate (N.length - vs.length) .any) := by
  have no : owns (L2.start N vs) (Γ ++ List.replicate (N.length - vs.length) .any) = [] := noOwn_nil (s.noOwn _)
  have eO : (frO ex gs H).O (L2.start N vs) (Γ ++ List.replicate (N.length - vs.length) .any) = ex := by
    show ex ++ owns _ _ = _
    rw [no, List.append_nil]
  have hl := s.length
  refine ⟨fun B hB => ?_, fun l hl => ⟨hx l hl, by rw [no]; simp⟩, ?_, by rw [no]; exact List.nodup_nil, fun i o sv e1 e2 => ?_, fun g hgm => by rw [eO]; exact hg g hgm, ha, fun B hB => absurd hB (by simp)⟩
  · rcases hB with z | z
    · rw [z, eO]
      exact ⟨offs_le, fun l hl => offs_in hl⟩
    · cases z
  · unfold L2.start
    simp only [List.length_append, List.length_map, List.length_replicate]
    omega
  · rw [eO]
    unfold L2.start at e1
    by_cases hi : i < vs.length
    · rw [List.getElem?_append_left (by rw [List.length_map]; exact hi), List.getElem?_map, List.getElem?_eq_getElem hi] at e1
      rw [List.getElem?_append_left (by omega)] at e2
      have e1 : some (some vs[i]) = some o := e1
      cases e1
      exact s.at2 i _ sv (List.getElem?_eq_getElem hi) e2
    · rw [List.getElem?_append_right (by omega), List.getElem?_replicate] at e2
      split at e2
      · cases e2; trivial
      · cases e2
end
end DL

set_option Elab.async false
set_option linter.all false
set_option maxRecDepth 100000
set_option maxHeartbeats 4000000
/-! DL47: a < b of nested data. -/
namespace DL
open PySem L2
def ltD (d e : D) : Bool := W.dataLt (toPy d) (toPy e)
def rLtD (K : PySem.W.Frag) : R2 := fun x y H Q => ∃ d e, Dp K H x d ∧ Dp K H y e ∧ W.alike d e = true ∧ d ≠ .none ∧ d.depth ≤ 60 ∧ Q (.bl (W.dataLt d e)) H
theorem op_ltD {X : Cx} (hu : X.A.units + 64 < cLine) : OpR X (compareOp .Lt) (rLtD X.K) := by
  intro pins s σ H x y v u Q I rx ry h
  obtain ⟨d, e, hd, he, al, hn, hp, q⟩ := h
  obtain ⟨as, r1⟩ := Dp.reads I d x v hd rx
  obtain ⟨bs, r2⟩ := Dp.reads I e y u he ry
  exact W.lt_data r1 r2 al hn (by have : min d.depth e.depth ≤ d.depth := Nat.min_le_left _ _; omega) ⟨.bl _, H, I, rfl, q⟩
section
variable {X : Cx} {a b : Expr} {pos : Pos} {Z : Fr} {Γ : List SV} {ma mb : Nat} {da db : D}
/-- data alike, not None -/
structure LtOk (da db : D) : Prop where
  p : pln da = true
  q : pln db = true
  al : W.alike (toPy da) (toPy db) = true
  nn : toPy da ≠ .none
  dp : (toPy da).depth ≤ 60
theorem t_ltD (hu : X.A.units + 64 < cLine) (ha : PE X a (tD Z Γ ma da)) (hb : PE X b (tD Z Γ mb db)) (h : LtOk da db) : PT X (.Compare a [.Lt] [b] pos) (tDT Z Γ (ltD da db)) :=
  t_cmpS (op_ltD hu) (fun H x y Q r1 r2 q => ⟨_, _, r1.dp h.p, r2.dp h.q, h.al, h.nn, h.dp, q⟩) ha hb (nm _ (by decide) (by decide))
end
end DL

set_option Elab.async false
set_option linter.all false
set_option maxRecDepth 100000
set_option maxHeartbeats 4000000
/-! DL48: a dict's entry put over, asked with another answer; a pattern = x.pop(). -/
namespace DL
open PySem L2
def rowPut (row : Row) (ns : List Int) (d : D) : Row := if (row.any fun p => decide (p.1 = ns)) = true then row.map (fun p => if p.1 = ns then (p.1, d) else p) else row ++ [(ns, d)]
section
variable {R : Hp} {kvs : List (List Key × V)} {row : Row} {ns : List Int} {v : V} {d : D}
theorem any_kI : ∀ {kvs : List (List Key × V)} {row : Row}, kvs.map (·.1) = row.map (fun p => kI p.1) → (kvs.any fun kv => decide (kv.1 = kI ns)) = (row.any fun p => decide (p.1 = ns))
  | [], [], _ => rfl
  | [], _ :: _, h => by cases h
  | _ :: _, [], h => by cases h
  | p :: kvs, q :: row, h => by
    obtain ⟨h1, h2⟩ := List.cons.inj h
    rw [List.any_cons, List.any_cons, any_kI h2]
    congr 1
    refine decide_eq_decide.mpr ⟨fun z => kI_inj (h1.symm.trans z), fun z => h1.trans (congrArg kI z)⟩
theorem putK_keys (h : kvs.map (·.1) = row.map (fun p => kI p.1)) : (putK kvs (kI ns) v).map (·.1) = (rowPut row ns d).map (fun p => kI p.1) := by
  unfold putK rowPut
  rw [any_kI h]
  by_cases z : (row.any fun p => decide (p.1 = ns)) = true
  · rw [if_pos z, if_pos z, List.map_map, List.map_map, ← show kvs.map (·.1) = kvs.map ((·.1) ∘ fun kv => if kv.1 = kI ns then (kv.1, v) else kv) from List.map_congr_left fun p _ => by
      show p.1 = (if p.1 = kI ns then (p.1, v) else p).1
      split <;> rfl, h]
    refine List.map_congr_left fun p _ => ?_
    show kI p.1 = kI (if p.1 = ns then (p.1, d) else p).1
    split <;> rfl
  · rw [if_neg z, if_neg z, List.map_append, List.map_append, h]; rfl
theorem putK_vals (h : kvs.map (·.1) = row.map (fun p => kI p.1)) (r : RepL R (kvs.map (·.2)) (row.map (·.2))) (rv : Rep R v d) : RepL R ((putK kvs (kI ns) v).map (·.2)) ((rowPut row ns d).map (·.2)) := by
  have go : ∀ {kvs : List (List Key × V)} {row : Row}, kvs.map (·.1) = row.map (fun p => kI p.1) → RepL R (kvs.map (·.2)) (row.map (·.2)) → RepL R ((kvs.map fun kv => if kv.1 = kI ns then (kv.1, v) else kv).map (·.2)) ((row.map fun p => if p.1 = ns then (p.1, d) else p).map (·.2)) := by
    intro kvs
    induction kvs with
    | nil =>
      intro row h r
      cases row with
      | nil => exact .nil
      | cons => cases h
    | cons p kvs ih =>
      intro row h r
      cases row with
      | nil => cases h
      | cons q row =>
        obtain ⟨h1, h2⟩ := List.cons.inj h
        rw [List.map_cons, List.map_cons] at r
        cases r with
        | cons r1 r2 =>
          rw [List.map_cons, List.map_cons, List.map_cons, List.map_cons]
          refine .cons ?_ (ih h2 r2)
          by_cases z : q.1 = ns
          · rw [if_pos z, if_pos (h1.trans (congrArg kI z))]; exact rv
          · rw [if_neg z, if_neg (fun y => z (kI_inj (h1.symm.trans y)))]; exact r1
  unfold putK rowPut
  rw [any_kI h]
  by_cases z : (row.any fun p => decide (p.1 = ns)) = true
  · rw [if_pos z, if_pos z]; exact go h r
  · rw [if_neg z, if_neg z, List.map_append, List.map_append]; exact r.append (.cons rv .nil)
end
section
variable {X : Cx} {e a b o kx : Expr} {pos : Pos} {rest : List Stmt} {E : Ends} {σ : L2.St} {H : Hp} {Z : Fr} {Γ : List SV} {m ma mb mc mt i j k : Nat} {d dd : D} {l : Addr} {ds : List Addr} {es : List D} {rows : List Row} {row : Row} {ns : List Int}
/-- t[k].get(key, d) -/
theorem d_getDT {apos cpos : Pos} (hu : X.A.units + 64 < cLine) (k : Nat) (hg : gTb mt l ds rows ∈ Z.gs) (ho : PE X o (tR Z Γ (.ref (ds.getD k 0)))) (hk : PE X kx (tD Z Γ mb (dT ns))) (he : PE X e (tD Z Γ mt dd)) (hr : rows[k]? = some row) (m2 : M2 X o "get" apos kx e cpos := by exact ⟨rfl, rfl, rfl, rfl⟩) (hm2 : mt ≤ 2 := by decide) : PE X (.Call (.Attribute o "get" apos) [kx, e] [] cpos) (tD Z Γ mt ((rowGet row ns).getD dd)) :=
  pe_imp (pe_dget2 (by omega) ho hk he m2) fun σ H Q h => ⟨h.1, fun H1 e1 => by
    have h1 := h.1.grow e1
    obtain ⟨kvs, k1, _, _⟩ := dic_at h1 hg hr
    refine ⟨_, rfl, .inr ⟨kvs, .inl k1⟩, h1, fun y H2 e2 r => ⟨h1.grow e2, fun z H3 e3 rz => ?_⟩⟩
    obtain ⟨b, rfl, hb⟩ := key_at (r.mono rg_le)
    have e03 := (e1.trans e2).trans e3
    have h3 := h.1.grow e03
    obtain ⟨kvs, k1, k2, k3⟩ := dic_at h3 hg hr
    have q := dic_get ns k2 k3
    refine ⟨_, DGet.t k1 (e3 _ _ hb), ?_⟩
    cases w : rowGet row ns with
    | none =>
      rw [q.1 w]
      exact h.2 z H3 e03 (by rw [rg_same hm2] at rz ⊢; rw [w]; exact rz)
    | some d =>
      obtain ⟨v, hv, rv⟩ := q.2 d w
      rw [hv]
      exact h.2 v H3 e03 (by rw [rg_same hm2, w]; exact rv)⟩
/-- t[k][key] = e, there or not -/
theorem w_putT2 {kpos : Pos} (hu : X.A.units + 64 < cLine) (j k : Nat) (hj : Z.gs[j]? = some (gTb mt l ds rows)) (he : PE X e (tD Z Γ ma d)) (ho : PE X o (tR Z Γ (.ref (ds.getD k 0)))) (hk : PE X kx (tD Z Γ mb (dT ns))) (hr : rows[k]? = some row) (hl : row.length < 1000000) (h : Holds Z σ H Γ)
    (kk : ∀ H', Holds { Z with gs := Z.gs.set j (gTb mt l ds (rows.set k (rowPut row ns d))) } σ H' Γ → wp X rest E σ H') (hma : mt ≤ ma := by decide) (hm1 : 1 ≤ mt := by decide) (hm2 : mt ≤ 2 := by decide) (hz : noz Γ = true := by rfl)
    (hs : swapsWith e (some (.Subscript o kx kpos)) pos.line X.env = pure false := by rfl) : wp X (.Assign [.Subscript o kx kpos] e pos :: rest) E σ H :=
  wp_cons (ps_dput (by omega) ho hk he hs) ⟨h, fun v H1 e1 rv => ⟨h.grow e1, fun H2 e2 => ⟨h.grow (e1.trans e2), fun y H3 e3 ry => by
    have hg : gTb mt l ds rows ∈ Z.gs := List.mem_of_getElem? hj
    obtain ⟨b, rfl, hb⟩ := key_at (ry.mono rg_le)
    have e13 := e2.trans e3
    have e03 := e1.trans e13
    have h3 := h.grow e03
    obtain ⟨kvs, k1, k2, k3⟩ := dic_at h3 hg hr
    have hlen : kvs.length < sizeLine := by
      have e : kvs.length = row.length := by
        have := congrArg List.length k2
        rw [List.length_map, List.length_map] at this; exact this
      rw [e]; exact Nat.lt_of_lt_of_le hl (by decide)
    refine ⟨_, _, rfl, DPut.t k1 hb hlen, ?_⟩
    have t := h3.tabAt hg
    have hkl := (List.getElem?_eq_some_iff.mp hr).1
    have hdk := tab_ref t hkl
    have hdm : ds.getD k 0 ∈ l :: ds := List.mem_cons_of_mem _ (List.mem_of_getElem? hdk)
    have hx : ds.getD k 0 ∈ Z.ex := (h3.gok _ hg).1 _ hdm
    have hxO : ds.getD k 0 ∈ Z.O σ Γ := List.mem_append_left _ hx
    have hne : l ≠ ds.getD k 0 := fun z => (List.nodup_cons.mp t.2.2.1).1 (by rw [z]; exact List.mem_of_getElem? hdk)
    have up : Ex (rg mt (Z.O σ Γ) Z.h0 Z.h0 H3) (rg mt (Z.O σ Γ) Z.h0 Z.h0 (upd H3 (ds.getD k 0) (.dT (putK kvs (kI ns) v)))) := rg_mut hm1 hxO
    have rv' : Rep (rg mt (Z.O σ Γ) Z.h0 Z.h0 H3) v d := (by have q := rv.mono (rg_down hma h.h0x); rw [rg_same hm2] at q; exact q : Rep (rg mt (Z.O σ Γ) Z.h0 Z.h0 H1) v d).mono (rg_ex (fun _ z => .inl z) (Ex.refl _) e13)
    have new : GOk Z.h0 (Z.O σ Γ) Z.ex (upd H3 (ds.getD k 0) (.dT (putK kvs (kI ns) v))) (gTb mt l ds (rows.set k (rowPut row ns d))) := by
      refine ⟨(h3.gok _ hg).1, hm1, ?_, by rw [List.length_set]; exact t.2.1, t.2.2.1, fun i' d' row' hd' hr' => ?_⟩
      · show only (l :: ds) _ l = _
        rw [only_at List.mem_cons_self, upd_ne hne]
        exact (only_some t.1).2
      · have hdi : d' ∈ l :: ds := List.mem_cons_of_mem _ (List.mem_of_getElem? hd')
        by_cases hik : k = i'
        · subst hik
          rw [hdk] at hd'
          cases hd'
          rw [List.getElem?_set_self hkl] at hr'
          cases hr'
          exact ⟨putK kvs (kI ns) v, by show only (l :: ds) _ _ = _; rw [only_at hdi, upd_same], putK_keys k2, putK_vals k2 (k3.mono up) (rv'.mono up)⟩
        · rw [List.getElem?_set_ne hik] at hr'
          obtain ⟨kvs', q1, q2, q3⟩ := t.2.2.2 i' d' row' hd' hr'
          have hnd := (List.nodup_cons.mp t.2.2.1).2
          have hne' : d' ≠ ds.getD k 0 := fun z => by
            have h1 : i' < ds.length := (List.getElem?_eq_some_iff.mp hd').1
            rw [z] at hd'
            have h2 : ds[i']? = ds[k]? := hd'.trans hdk.symm
            exact hik ((List.getElem?_inj h1 hnd).mp h2).symm
          exact ⟨kvs', by show only (l :: ds) _ _ = _; rw [only_at hdi, upd_ne hne']; exact (only_some q1).2, q2, q3.mono up⟩
    have hjl : j < Z.gs.length := (List.getElem?_eq_some_iff.mp hj).1
    refine kk _ (h3.turn hx hz (fun g hgm => ?_) ?_)
    · obtain ⟨n, hn', rfl⟩ := List.mem_iff_getElem.mp hgm
      rw [List.getElem_set]
      split
      · exact new
      · rename_i hjn
        rw [List.length_set] at hn'
        refine (h3.gok _ (List.getElem_mem hn')).mut hxO fun w => ?_
        have ap := h3.gap
        have hjg : Z.gs[j] = gTb mt l ds rows := by
          have := List.getElem?_eq_getElem hjl
          rw [hj] at this; exact (Option.some.inj this).symm
        rcases Nat.lt_or_gt_of_ne hjn with q | q
        · have z := List.pairwise_iff_getElem.mp ap j n hjl hn' q
          rw [hjg] at z
          exact z _ hdm w
        · have z := List.pairwise_iff_getElem.mp ap n j hn' hjl q
          rw [hjg] at z
          exact z _ w hdm
    · have ap := h3.gap
      have hjg : Z.gs[j] = gTb mt l ds rows := by
        have := List.getElem?_eq_getElem hjl
        rw [hj] at this; exact (Option.some.inj this).symm
      refine List.pairwise_iff_getElem.mpr fun n1 n2 q1 q2 q => ?_
      rw [List.length_set] at q1 q2
      have z := List.pairwise_iff_getElem.mp ap n1 n2 q1 q2 q
      rw [List.getElem_set, List.getElem_set]
      split
      · rename_i w1
        subst w1
        rw [hjg] at z
        split
        · rename_i w2; omega
        · exact z
      · split
        · rename_i w2
          subst w2
          rw [hjg] at z
          exact z
        · exact z⟩⟩⟩
/-- pattern = x.pop() -/
theorem w_popU {tg : Expr} {Γ' : List SV} (i : Nat) (p : Pat) {x : Str} {xp ap cp : Pos} (hg : PG X tg (gP X.K p)) (hΓ : Γ[i]? = some (.own m es)) (hd : es[es.length - 1]? = some d) (hb : bindP (min m 2) p d (Γ.set i (.own m es.dropLast)) = some Γ') (h : Holds Z σ H Γ) (k : ∀ σ' H', Holds Z σ' H' Γ' → wp X rest E σ' H')
    (hnz : noz Γ = true := by rfl) (hm : 1 ≤ m := by decide) (hN : X.N[i]? = some x := by rfl) (hv : Vis X.env.scope x := by first | exact Or.inl rfl | exact Or.inr (Or.inl rfl) | exact Or.inr (Or.inr rfl))
    (hdb : (x == ("__debug__" : Str)) = false := by decide) (hcd : (x == ("__classdict__" : Str)) = false := by decide)
    (hline : (ap.endLine == cp.line) = true := by rfl) (hs : swapsWithSole [tg] (.Call (.Attribute (.Name x xp) "pop" ap) [] [] cp) pos.line X.env = pure false := by rfl) (hw : swappedStores [tg] (.Call (.Attribute (.Name x xp) "pop" ap) [] [] cp) X.env = pure none := by rfl) (h1 : (assignEach [tg] X.env).map (·.2) = [assign tg X.env] := by rfl) :
    wp X (.Assign [tg] (.Call (.Attribute (.Name x xp) "pop" ap) [] [] cp) pos :: rest) E σ H :=
  wp_cons (ps_asg (pe_bm0 PySem.F.plainAttrs_list PySem.F.slot_list_pop PySem.F.type_list_pop mt_pop (pe_var hN hv hdb hcd) rfl hline) hg hs hw h1) (by
    obtain ⟨l, vs, e1, e2, r⟩ := own_at h hΓ
    have hvd : ∃ v, vs[vs.length - 1]? = some v ∧ Rep (rg m (Z.O σ Γ) Z.h0 Z.h0 H) v d := by
      rw [r.length]; exact r.getD hd
    obtain ⟨v, hv1, hv2⟩ := hvd
    refine ⟨.ref l, e1, .inl ⟨rfl, _, .of e2⟩, l, vs, v, rfl, rfl, e2, hv1, ?_⟩
    have h' := h.mutate hnz hΓ e1 hm r.dropLast
    have hlO : l ∈ Z.O σ Γ := List.mem_append_right _ (mem_owns.mpr ⟨i, m, es, e1, hΓ⟩)
    have eo : Z.O σ (Γ.set i (.own m es.dropLast)) = Z.O σ Γ := congrArg (Z.ex ++ ·) (owns_same e1 hΓ)
    refine gP_ok h' ?_ hb fun σ' h2 _ => k σ' _ h2
    rw [eo]
    exact (hv2.mono (rg_mut hm hlO)).mono (rg_down (Nat.min_le_left _ _) (Ex.refl _)))
end
end DL

set_option Elab.async false
set_option linter.all false
set_option maxRecDepth 100000
set_option maxHeartbeats 4000000
/-! DL49: a hidden dict of pairs of numbers; [d[k][c] for k in d]. -/
namespace DL
open PySem L2
def gD (mt : Nat) (dd : Addr) (row : Row) : GS where
  as := [dd]
  m := mt
  P := fun R O => DicAt R O dd row
  mono := fun e ⟨kvs, h1, h2, h3⟩ => ⟨kvs, h1, h2, h3.mono e⟩
abbrev pD (p : Int × Int) : D := .tup [.int p.1, .int p.2]
theorem rowGet_nd {row : Row} {k : List Int} {d : D} (nd : (row.map (·.1)).Nodup) (h : (k, d) ∈ row) : rowGet row k = some d := by
  induction row with
  | nil => cases h
  | cons e row ih =>
    have nd' := List.nodup_cons.mp nd
    rw [rowGet_cons]
    rcases List.mem_cons.mp h with z | z
    · rw [← z, if_pos rfl]
    · rw [if_neg fun q => nd'.1 (List.mem_map.mpr ⟨_, z, q.symm⟩)]
      exact ih nd'.2 z
section
variable {X : Cx} {iter elt : Expr} {pos p1 p2 p3 : Pos} {Z : Fr} {Γ : List SV} {mt i j : Nat} {dd : Addr} {scope : Scope} {prs : List (List Int × (Int × Int))}
/-- [d[k][c] for k in d], d a hidden dict of pairs -/
theorem d_lcD {x y : Str} {xp yp : Pos} {c : Nat} {f : Int × Int → Int} (i j : Nat) (hf : ∀ p : Int × Int, ([D.int p.1, D.int p.2])[c]? = some (.int (f p))) (hΓ : Γ[i]? = some (.raw (.ref dd))) (hij : i ≠ j) (hgt : gD mt dd (prs.map fun e => (e.1, pD e.2)) ∈ Z.gs) (hlen : prs.length ≤ 1000000) (hnd : (prs.map (·.1)).Nodup) (hu : X.A.units + 64 < cLine)
    (hN : X.N.Nodup) (hNi : X.N[i]? = some y) (hg : ∀ (s : Shared) (H' : Hp) (C : Addr) (cl : List (Str × Addr)) (fp : List Addr), PG (blkX X scope s H' C cl fp) (.Name x xp) (gP X.K (.nm j)))
    (he : ∀ (s : Shared) (H' : Hp) (C : Addr) (cl : List (Str × Addr)) (fp : List Addr), PE (blkX X scope s H' C cl fp) elt (tOp (rIxT X.K) (tDGet (tVar i) (tVar j)) (tC (.int (c : Int)))))
    (own : List (Str × Nat)) (ok : BlkOk X.N X.env.scope scope own) (hv : Vis X.env.scope y := by first | exact Or.inl rfl | exact Or.inr (Or.inl rfl) | exact Or.inr (Or.inr rfl)) (hd : (y == ("__debug__" : Str)) = false := by decide) (hcd : (y == ("__classdict__" : Str)) = false := by decide)
    (how : own.map (·.2) = [j] := by rfl) (hc : X.calm = true := by rfl) (hj : j < Γ.length := by first | decide | exact Nat.le_of_ble_eq_true rfl) (hs : ∀ v, foldedSetIterable (.Name y yp) X.env v = pure v := by intro _; rfl) :
    PE X (.ListComp elt [⟨.Name x xp, .Name y yp, [], 0⟩] scope pos) (tD Z Γ 3 (dI (prs.map fun e => f e.2))) := by
  have key : ∀ te : TE, PE X (.Name y yp) te → (∀ σ H Hl Q, Holds Z σ H Γ → (∀ a, a ≠ dd → Hl a = H a) → Q (.ref dd) Hl → te σ Hl Q) → PE X (.ListComp elt [⟨.Name x xp, .Name y yp, [], 0⟩] scope pos) (tD Z Γ 3 (dI (prs.map fun e => f e.2))) := ?_
  · exact key (tVar i) (pe_var hNi hv hd hcd) (te_var i hΓ)
  intro te hi hte
  refine pe_imp (pe_lock (pe_lc (tt := tYes) hc hN (pi_keys hi) ok hg (fun s H C cl fp => pts_nil) he hs)) fun σ H Q h => ?_
  rw [how]
  generalize hrow : (prs.map fun e => (e.1, pD e.2)) = row at hgt
  obtain ⟨kvs, k1, k2, k3⟩ := (h.1.gok _ hgt).2.2
  have k1 := (only_some k1).2
  have hle : kvs.length = prs.length := by
    have := congrArg List.length k2
    rw [← hrow, List.length_map, List.length_map, List.length_map] at this; exact this
  have hnd' : (row.map (·.1)).Nodup := by rw [← hrow, List.map_map]; exact hnd
  refine ⟨dd, .dT kvs, k1, trivial, fun od => ?_⟩
  generalize hL : upd H dd (.frz od (.dT kvs)) = HL
  have hLd : HL dd = some (.frz od (.dT kvs)) := by rw [← hL]; exact upd_same
  have hLn : ∀ a, a ≠ dd → HL a = H a := fun a z => by rw [← hL]; exact upd_ne z
  have hn : ∀ a, HL a = none → H a = none := fun a z => by
    by_cases q : a = dd
    · rw [q, hLd] at z; cases z
    · rw [hLn a q] at z; exact z
  refine hte σ H HL _ h.1 hLn ⟨dd, od, rfl, .inr ⟨kvs, hLd, fun D hD => ?_⟩⟩
  have hjσ : j < σ.length := by rw [h.1.len]; exact hj
  have hiσ : σ[i]? = some (some (.ref dd)) := h.1.raw_at hΓ
  refine ⟨fun i n Hi => n = kvs.length - i ∧ i ≤ kvs.length ∧ Ex HL Hi ∧ Hi D = some (.lst ((prs.take i).map fun e => .int (f e.2))), ⟨kvs.length, by simp, Nat.zero_le _, Ex.new hD, upd_same⟩, ?_⟩
  rintro m n Hi ⟨rfl, hi', ex, hacc⟩
  have hid := ex _ _ hLd
  by_cases hlt : m < kvs.length
  · refine .inr ⟨⟨hid, hlt⟩, fun Hj => m + 1 ≤ kvs.length ∧ Ex HL Hj ∧ Hj D = some (.lst ((prs.take (m + 1)).map fun e => .int (f e.2))), fun Hj q => ⟨kvs.length - (m + 1), by omega, rfl, q⟩, fun y H2 q => ?_⟩
    obtain ⟨rfl, ks, v0, q, hkv, rfl, hq⟩ := q
    refine ⟨wipe_one.trans wipe_wipe, ?_⟩
    unfold tYes
    dsimp only
    rw [if_pos rfl]
    have hp : prs[m]? = some (prs[m]'(by rw [← hle]; exact hlt)) := List.getElem?_eq_getElem _
    generalize prs[m]'(by rw [← hle]; exact hlt) = p at hp
    have hpr : row[m]? = some (p.1, pD p.2) := by rw [← hrow, List.getElem?_map, hp]; rfl
    have hk : ks = kI p.1 := by
      have := congrArg (fun l => l[m]?) k2
      simp only [List.getElem?_map, hkv, hpr, Option.map_some] at this
      exact Option.some.inj this
    rw [hk] at hq
    obtain ⟨v, hv1, hv2⟩ := (dic_get p.1 k2 k3).2 _ (rowGet_nd hnd' (List.mem_of_getElem? hpr))
    cases hv2 with
    | @tup a2 vs2 _ r1 r2 =>
      have r1 := rg_le _ _ r1
      have hv : vs2 = [.int p.2.1, .int p.2.2] := by
        cases r2 with
        | cons x1 x2 =>
          cases x1
          cases x2 with
          | cons y1 y2 =>
            cases y1
            cases y2
            rfl
      subst hv
      have hne2 : a2 ≠ dd := fun z => by rw [z, k1] at r1; cases r1
      have r2 : H2 a2 = some (.tup [.int p.2.1, .int p.2.2]) := ex _ _ (by rw [hLn a2 hne2]; exact r1)
      have hw : j < (wipe σ [j]).length := by rw [wipe_length]; exact hjσ
      refine ⟨.ref dd, ?_, .ref q, List.getElem?_set_self hw, dd, .ref a2, rfl, .inr ⟨kvs, kI p.1, q, .inr ⟨od, hid⟩, rfl, hq, hv1.symm⟩, a2, [.int p.2.1, .int p.2.2], (c : Int), .int (f p.2), rfl, rfl, .of r2, ?_, ?_⟩
      · rw [List.getElem?_set_ne (Ne.symm hij)]
        have : wipe σ [j] = σ.set j none := rfl
        rw [this, List.getElem?_set_ne (Ne.symm hij)]
        exact hiσ
      · have := hf p.2
        have hc2 : c < 2 := by
          have := (List.getElem?_eq_some_iff.mp this).1
          simpa using this
        unfold atI
        rw [ix_nat (by simpa using hc2), Option.bind_some]
        match c, hc2, this with
        | 0, _, this => have := _root_.DL.D.int.inj (Option.some.inj this); show some (V.int p.2.1) = _; rw [this]
        | 1, _, this => have := _root_.DL.D.int.inj (Option.some.inj this); show some (V.int p.2.2) = _; rw [this]
      · refine ⟨_, hacc, ?_, hlt, ?_, ?_⟩
        · rw [List.length_map, List.length_take]
          have h4 : 1000000 < sizeLine := by decide
          omega
        · intro a o z
          have hne : a ≠ D := fun w => by rw [w, hD] at z; cases z
          rw [upd_ne hne]
          exact ex _ _ z
        · rw [upd_same, take_succ_get hp, List.map_append]; rfl
  · have e : m = kvs.length := by omega
    subst e
    refine .inl ⟨⟨hid, Nat.le_refl _⟩, hid, ?_⟩
    have hDd : D ≠ dd := fun z => by rw [z, hLd] at hD; cases hD
    have exH : Ex H (upd Hi dd (.dT kvs)) := fun a o z => by
      by_cases q : a = dd
      · rw [q, upd_same, ← k1, ← q]; exact z.symm ▸ rfl
      · rw [upd_ne q]
        exact ex _ _ (by rw [hLn a q]; exact z)
    refine h.2 _ _ exH ?_
    rw [hle, List.take_length] at hacc
    have e : (prs.map fun e => V.int (f e.2)) = (prs.map fun e => f e.2).map V.int := by rw [List.map_map]; rfl
    rw [e] at hacc
    refine .lst (vs := (prs.map fun e => f e.2).map V.int) (reg_has (fun w => h.1.dom D w (hn _ hD)) (hn _ hD) (by rw [upd_ne hDd]; exact hacc) trivial) (RepL.ints _)
end
end DL

set_option Elab.async false
set_option linter.all false
set_option maxRecDepth 100000
set_option maxHeartbeats 4000000
namespace DL
open PySem PySem.Spec PyProof.Rows L2
/-! set(xs) of a list of ints: an empty set, then each item put in -/
abbrev emptyS (w : World) : Obj := { cls := .type "set", dict := none, data := .set #[] 0 (.fresh 0 0 (!w.params.followText "set-order")) }
/-- the set p holds ns; what stood stands -/
def SetNow (w : World) (s : Shared) (p : Addr) (ns : List Int) (t : Shared) : Prop :=
  ∃ h' tk c, t = { s with heap := h', toks := tk } ∧ SetR w h' p (fun j => decide (j ∈ ns)) c ∧ c ≤ ns.length ∧ ∀ b o, s.heap.get? b = some o → h'.get? b = some o
section
variable {P : Program} {w : World} {A : Around} {E : Value → Shared → Prop} {s : Shared} {l : Addr} {items : Array Value}
theorem size_of_ints {ns : List Int} (hit : IntsAre items.toList ns) : items.size = ns.length := by
  have q := IntsAre.length hit
  rwa [Array.length_toList] at q
set_option maxHeartbeats 3200000 in
/-- __init__ of a new empty set, from a list -/
theorem init_lst (ns : List Int) {Q : Value → Shared → Prop} (hh : A.handled = none) (hl : s.heap.IsList l items) (hit : IntsAre items.toList ns) (hb : ns.length + 1 < scanBound)
    (h : ∀ t, SetNow w s s.heap.objs.size ns t → Q .none t) :
    codeAny (model P w) A (.call (.builtin "set.__init__") ⟨[.ref s.heap.objs.size, .ref l], []⟩) (wants Q E) { s with heap := s.heap.push (emptyS w) } := by
  have own : (s.heap.push (emptyS w)).get? s.heap.objs.size = some (emptyS w) := Heap.get?_push_size _ rfl
  have kind : Shared.TypeIs { s with heap := s.heap.push (emptyS w) } (.ref s.heap.objs.size) "set" := ⟨_, own, rfl⟩
  refine codeAny_call_builtin F.called_set.init.plain F.entry_set_init (check_set_init_1 kind ?_)
  obtain ⟨⟨cl, dc, dt, sl⟩, ho, h1, n, h2⟩ := hl
  obtain rfl : cl = .type "list" := h1
  obtain rfl : dt = .seq items n := h2
  have l1 : (s.heap.push (emptyS w)).IsList l items := ⟨_, Heap.get?_push_of_some _ ho, rfl, n, rfl⟩
  have at1 : (s.heap.push (emptyS w)).get? l = some { cls := .type "list", dict := dc, data := .seq items n, slots := sl } := Heap.get?_push_of_some _ ho
  have no1 := F.sub_list_set
  have no2 := F.sub_list_frozenset
  have no3 : (Value.type "list" == Value.type "dict") = false := by decide
  have below : l < s.heap.objs.size := Heap.lt_size ho
  have len := size_of_ints hit
  unfold Builtin.«set.__init__» noKeywords Builtin.Frozenset.updateFrom
  generalize hI : pyIter = iter
  wp_walk
  subst hI
  refine wpAny_pyIter_list l1 (wpAny_bind (wpAny_runValue ?_))
  have off : s.heap.objs.size ∉ [(s.heap.push (emptyS w)).objs.size, l] := fun z => by
    rw [Heap.size_push] at z
    rcases List.mem_cons.mp z with e | e
    · exact absurd e (Nat.ne_of_lt (Nat.lt_succ_self _))
    · rw [← List.mem_singleton.mp e] at below; exact Nat.lt_irrefl _ below
  have lne : l ≠ (s.heap.push (emptyS w)).objs.size := fun e => by
    rw [Heap.size_push] at e
    exact absurd e (Nat.ne_of_lt (Nat.lt_succ_of_lt below))
  refine set_update_ints ((Walks.list (by simp [hh]) _ l lne items).toS) s.heap.objs.size off ns len hb (fun i v hv => ?_) (items.size - 0) 0 _ (by omega) (Nat.zero_le _) ⟨⟨_, Heap.get?_push_size _ rfl, rfl, rfl⟩, l1.push _⟩ ⟨0, Nat.le_refl 0, setR_new_at (Heap.get?_push_of_some _ own)⟩ fun t c mv hc ht => ?_
  · have hi : i < ns.length := by rw [← len]; exact (Array.getElem?_eq_some_iff.mp hv).1
    obtain ⟨u, e⟩ := PyProof.Rows.IntsAre.int_at hit i v (by rw [Array.getElem?_toList]; exact hv)
    rw [List.getD_eq_getElem?_getD, List.getElem?_eq_getElem hi] at e
    exact ⟨ns[i], u, List.getElem?_eq_getElem hi, e⟩
  · obtain ⟨h', g2, d2, tk, os2⟩ := t
    obtain rfl : g2 = s.gens := mv.gens
    obtain rfl : d2 = s.drawn := mv.drawn
    obtain rfl : os2 = s.os := mv.os
    show wpAny _ _ _ _ _ _
    refine wpAny_pure ?_
    show wpAny _ _ (ret Value.none) _ _ _
    refine wpAny_pure (h _ ⟨h', tk, c, rfl, ht, by rw [← len]; exact hc, fun b o e => ?_⟩)
    have hlt : b < s.heap.objs.size := Heap.lt_size e
    refine mv.heap b o (fun z => ?_) (Heap.get?_push_of_some _ (Heap.get?_push_of_some _ e))
    rcases List.mem_cons.mp z with q | q
    · exact absurd q (Nat.ne_of_lt hlt)
    · have q := List.mem_singleton.mp q
      rw [Heap.size_push] at q
      exact absurd q (Nat.ne_of_lt (Nat.lt_succ_of_lt hlt))
set_option maxHeartbeats 3200000 in
/-- set(xs) -/
theorem call_set_lstI (ns : List Int) {Q : Value → Shared → Prop} (hh : A.handled = none) (hl : s.heap.IsList l items) (hit : IntsAre items.toList ns) (hb : ns.length + 1 < scanBound)
    (h : ∀ t, SetNow w s s.heap.objs.size ns t → Q (.ref s.heap.objs.size) t) : wpAny (model P w) A (call (.type "set") [.ref l]) Q E s := by
  obtain ⟨c, tl, hmro⟩ := F.called_set.mro
  have made := F.called_set.made
  have sub := F.called_set.sub
  have nt := F.called_set.notType
  have cc := F.called_set.canCreate
  have tc := F.typeCall_set_1 (.ref l)
  refine wpAny_call (codeAny_of_tree ?_)
  show wpAny _ _ (callAny (.type "set") _) _ _ _
  refine wpAny_pure ⟨Code.quiet_builtin _ (by decide +kernel), codeAny_builtin F.entry_type_call ?_⟩
  rw [Around.under_plain (weight_type_call_type "set" [.ref l] []) rfl]
  repeat (any_goals (first | assumption | wp_step))
  refine codeAny_mono (code_set_led1 (.ref l) (E := E) (Q₁ := fun v t => v = .ref s.heap.objs.size ∧ t = { s with heap := s.heap.push (emptyS w) }) ⟨rfl, rfl⟩) fun r t hr => ?_
  rcases r with e | (v | _ | _ | _) <;> first | exact hr | exact hr.elim | skip
  obtain ⟨rfl, rfl⟩ := hr
  have own : (s.heap.push (emptyS w)).get? s.heap.objs.size = some (emptyS w) := Heap.get?_push_size _ rfl
  have kind : Shared.TypeIs { s with heap := s.heap.push (emptyS w) } (.ref s.heap.objs.size) "set" := ⟨_, own, rfl⟩
  have il := F.called_set.init.lookup
  have ib := F.called_set.init.bind (.ref s.heap.objs.size)
  repeat (any_goals (first | assumption | wp_step))
  refine codeAny_mono (init_lst (E := E) (Q := fun v t => v = .none ∧ SetNow w s s.heap.objs.size ns t) ns (by simp [hh]) hl hit hb fun t ht => ⟨rfl, ht⟩) fun r2 t2 hr2 => ?_
  rcases r2 with e | (v | _ | _ | _) <;> first | exact hr2 | exact hr2.elim | skip
  obtain ⟨rfl, ht⟩ := hr2
  repeat (any_goals (first | assumption | wp_step))
  exact h _ ht
end
/-- set(a list of ints) -/
def rSetI (K : PySem.W.Frag) (w : World) : List V → Hp → VK → Prop := fun vs H Q => ∃ (a : Addr) (ns : List Int), vs = [.ref a] ∧ SqL K H a (ns.map V.int) ∧ ns.length ≤ 1000 ∧
  ∀ p c, H p = none → c ≤ ns.length → Q (.ref p) (upd H p (SetO w p (fun j => decide (j ∈ ns)) c))
theorem cr_setI {X : Cx} (hc : X.calm = true) : CallR X (.type "set") (rSetI X.K X.w) := by
  intro pins s σ H vs us Q I r h
  obtain ⟨a, ns, rfl, hq, hl, q⟩ := h
  rw [Vals.ref1 r]
  obtain ⟨its, rv, pl, hz⟩ := I.list hq
  have hi : IntsAre its.toArray.toList ns := ints_of_vals rv
  refine call_set_lstI ns (I.ok.hd hc) pl.isList hi (by unfold scanBound; omega) fun t ht => ?_
  obtain ⟨h', tk, c, rfl, R1, hcn, k⟩ := ht
  exact ⟨.ref _, upd H s.heap.objs.size (SetO X.w s.heap.objs.size (fun j => decide (j ∈ ns)) c), I.laid (t' := tk) k (Nat.le_refl _) (setO_new R1), rfl, q _ c (I.hok.fresh (Nat.le_refl _)) hcn⟩
/-- ints in turn, each once -/
def insU (k : Int) : List Int → List Int
  | [] => [k]
  | x :: xs => if k < x then k :: x :: xs else if k = x then x :: xs else x :: insU k xs
def sortU (ns : List Int) : List Int := ns.foldr insU []
theorem insU_mem {k y : Int} : ∀ {xs : List Int}, y ∈ insU k xs ↔ y = k ∨ y ∈ xs
  | [] => by simp [insU]
  | x :: xs => by
    unfold insU
    by_cases h1 : k < x
    · rw [if_pos h1]; simp
    · rw [if_neg h1]
      by_cases h2 : k = x
      · rw [if_pos h2]; subst h2; simp
      · rw [if_neg h2, List.mem_cons, insU_mem, List.mem_cons]
        constructor
        · rintro (h | h | h) <;> simp [h]
        · rintro (h | h | h) <;> simp [h]
theorem insU_up {k : Int} : ∀ {xs : List Int}, xs.Pairwise (· < ·) → (insU k xs).Pairwise (· < ·)
  | [], _ => by simp [insU]
  | x :: xs, h => by
    obtain ⟨h3, h4⟩ := List.pairwise_cons.mp h
    unfold insU
    by_cases h1 : k < x
    · rw [if_pos h1]
      refine List.pairwise_cons.mpr ⟨fun y hy => ?_, h⟩
      rcases List.mem_cons.mp hy with z | z
      · rw [z]; exact h1
      · have := h3 y z; omega
    · rw [if_neg h1]
      by_cases h2 : k = x
      · rw [if_pos h2]; exact h
      · rw [if_neg h2]
        refine List.pairwise_cons.mpr ⟨fun y hy => ?_, insU_up h4⟩
        rcases insU_mem.mp hy with z | z
        · omega
        · exact h3 y z
theorem sortU_mem {y : Int} : ∀ {ns : List Int}, y ∈ sortU ns ↔ y ∈ ns
  | [] => by simp [sortU]
  | n :: ns => by
    show y ∈ insU n (sortU ns) ↔ _
    rw [insU_mem, sortU_mem, List.mem_cons]
theorem sortU_up : ∀ (ns : List Int), (sortU ns).Pairwise (· < ·)
  | [] => .nil
  | n :: ns => insU_up (sortU_up ns)
theorem up_unique : ∀ {a b : List Int}, a.Pairwise (· < ·) → b.Pairwise (· < ·) → (∀ y, y ∈ a ↔ y ∈ b) → a = b
  | [], [], _, _, _ => rfl
  | [], y :: ys, _, _, h => absurd ((h y).mpr List.mem_cons_self) (by simp)
  | x :: xs, [], _, _, h => absurd ((h x).mp List.mem_cons_self) (by simp)
  | x :: xs, y :: ys, ha, hb, h => by
    obtain ⟨a1, a2⟩ := List.pairwise_cons.mp ha
    obtain ⟨b1, b2⟩ := List.pairwise_cons.mp hb
    have e : x = y := by
      rcases List.mem_cons.mp ((h x).mp List.mem_cons_self) with z | z
      · exact z
      · rcases List.mem_cons.mp ((h y).mpr List.mem_cons_self) with z2 | z2
        · exact z2.symm
        · have := b1 x z; have := a1 y z2; omega
    subst e
    rw [up_unique a2 b2 fun y => ⟨fun q => ?_, fun q => ?_⟩]
    · rcases List.mem_cons.mp ((h y).mp (List.mem_cons_of_mem _ q)) with z | z
      · have := a1 y q; omega
      · exact z
    · rcases List.mem_cons.mp ((h y).mpr (List.mem_cons_of_mem _ q)) with z | z
      · have := b1 y q; omega
      · exact z
theorem sortU_self {ns : List Int} : ns = sortU ns ↔ ns.Pairwise (· < ·) :=
  ⟨fun h => by rw [h]; exact sortU_up ns, fun h => up_unique h (sortU_up ns) fun _ => sortU_mem.symm⟩
section
variable {X : Cx} {a : Expr} {pos ps : Pos} {Z : Fr} {Γ : List SV} {ma : Nat} {ns : List Int}
/-- sorted(set(xs)) -/
theorem d_sortedSet (hm : X.mg "sorted" = none) (hm2 : X.mg "set" = none) (ha : PE X a (tD Z Γ ma (dI ns))) (hl : ns.length < 64) (hc : X.calm = true := by rfl) (hg : Gl X "sorted" := by rfl) (hg2 : Gl X "set" := by rfl) {p p2 : Pos}
    (he : starEach [.Call (.Name "set" p2) [a] [] ps] X.env = (false, eval (.Call (.Name "set" p2) [a] [] ps) X.env) :: starEach [] X.env := by rfl) (he2 : starEach [a] X.env = (false, eval a X.env) :: starEach [] X.env := by rfl)
    (hpl : (backTo pos (starEach [] X.env)).any (·.1) = false := by rfl) (hpl2 : (backTo ps (starEach [] X.env)).any (·.1) = false := by rfl) :
    PE X (.Call (.Name "sorted" p) [.Call (.Name "set" p2) [a] [] ps] [] pos) (tD Z Γ 3 (dI (sortU ns))) := by
  refine pe_imp (pe_callB (cr_sortedSet hc) hg hm (by decide +kernel) (pa_cons (pe_callTy (cr_setI hc) hg2 hm2 (by decide +kernel) (pa_cons ha pa_nil he2) (by decide) (by decide) he2 hpl2) pa_nil he) (by decide) (by decide) he hpl) fun σ H Q h => ?_
  refine ⟨h.1, fun v H1 e1 r => ?_⟩
  have r0 := r.mono (rg_le (H := H1))
  cases r0 with
  | @lst b vs _ h1 h2 =>
    have e := h2.ints_inv
    subst e
    refine ⟨b, ns, rfl, .of h1, by omega, fun p c hp hcl => ?_⟩
    refine ⟨p, _, c, rfl, by rw [upd_same], by omega, fun ns' p' hup hmem hlen hp' => ?_⟩
    have e2 : ns' = sortU ns := up_unique hup (sortU_up ns) fun y => by rw [hmem y, decide_eq_true_eq, sortU_mem]
    subst e2
    have x1 : Ex H1 (upd H1 p (SetO X.w p (fun j => decide (j ∈ ns)) c)) := .new hp
    have x2 : Ex H1 (upd (upd H1 p (SetO X.w p (fun j => decide (j ∈ ns)) c)) p' (.lst ((sortU ns).map V.int))) := x1.trans (.new hp')
    have h2' := h.1.grow (e1.trans x1)
    refine h.2 _ _ (e1.trans x2) (.lst (rg_new h2'.dom h2'.h0x (e1.trans x1) hp') (RepL.ints _))
end
end DL

set_option Elab.async false
set_option linter.all false
set_option maxRecDepth 100000
set_option maxHeartbeats 4000000
/-! DL50: a comprehension to a name, told of the very state; list(range(n)); less is hidden and told. -/
namespace DL
open PySem L2
section
variable {X : Cx} {tg iter elt a : Expr} {ifs : List Expr} {scope : Scope} {pos : Pos} {rest : List Stmt} {E : Ends} {σ : L2.St} {H : Hp} {Z : Fr} {Γ : List SV} {m me ma : Nat}
theorem w_lcE {α : Type} {enc : α → D} {ys : List α} {tst : α → Bool} {f : α → D} (i : Nat) {x : Str} {py : Pos} (own : List (Str × Nat)) (p : Pat) (hi : PI X tg iter (tI Z Γ m (ys.map enc))) (hg : ∀ (s : Shared) (H' : Hp) (C : Addr) (cl : List (Str × Addr)) (fp : List Addr), PG (blkX X scope s H' C cl fp) tg (gP X.K p))
    (turn : LcTurn X scope Z Γ (own.map (·.2)) m p enc ifs elt me tst f ys) (h : Holds Z σ H Γ) (k : ∀ v H', Ex H H' → Rep (rg me (Z.O σ Γ) Z.h0 H H') v (.lst ((ys.filter tst).map f)) → wp X rest E (σ.set i (some v)) H') (hlen : ys.length ≤ 1000000) (hN : X.N.Nodup) (ok : BlkOk X.N X.env.scope scope own)
    (hsw : swapsWith (.ListComp elt [⟨tg, iter, ifs, 0⟩] scope pos) (some (.Name x py)) pos.line X.env = pure true) {spos : Pos} (hsp : spos.line = pos.line := by rfl) (hi' : X.N[i]? = some x := by rfl) (hl : X.env.scope.names.lookup x = some .local := by rfl) (hc : X.calm = true := by rfl) (hm : 1 ≤ m := by decide) (hme : 1 ≤ me := by decide)
    (hz : noz Γ = true := by rfl) (hno : nown Γ (own.map (·.2)) = true := by rfl) (hsl : slotsIn p (own.map (·.2)) = true := by rfl) (hs : ∀ x, foldedSetIterable iter X.env x = pure x := by intro _; rfl) :
    wp X (.Assign [.Name x py] (.ListComp elt [⟨tg, iter, ifs, 0⟩] scope pos) spos :: rest) E σ H :=
  wp_cons (ps_setLc hc hN hi' hl (by rw [hsp]; exact hsw) hi ok hg (fun s H C cl fp => tTs_ok s H C cl fp) (fun s H C cl fp => tEs_ok s H C cl fp) hs) (imp_lc (Q := fun v H' => wp X rest E (σ.set i (some v)) H') hm hme hz hno hsl hlen turn ⟨h, fun v H' ex r => k v H' ex r⟩)
theorem d_listRg {n : Nat} {p p2 pos2 : Pos} (hm : X.mg "list" = none) (hm2 : X.mg "range" = none) (ha : PE X a (tD Z Γ ma (.int (n : Int)))) (hn : n ≤ 1000000) (hc : X.calm = true := by rfl) (hg : Gl X "list" := by rfl) (hg2 : Gl X "range" := by rfl)
    (na : starEach [.Call (.Name "range" p2) [a] [] pos2] X.env = (false, eval (.Call (.Name "range" p2) [a] [] pos2) X.env) :: starEach [] X.env := by rfl) (na2 : starEach [a] X.env = (false, eval a X.env) :: starEach [] X.env := by rfl) :
    PE X (.Call (.Name "list" p) [.Call (.Name "range" p2) [a] [] pos2] [] pos) (tD Z Γ 3 (dI ((List.range n).map fun (i : Nat) => (i : Int)))) :=
  pe_imp (pe_listRg hc hg hm (prg_1 hg2 hm2 ha na2) na) fun σ H Q h => ⟨h.1, fun v H1 e1 r => by
    cases r
    refine ⟨(n : Int), rfl, RgOk.of_le (by omega) (by omega) (by omega) (by omega), fun q hq => ?_⟩
    have e : rgV 0 (n : Int) = ((List.range n).map fun (i : Nat) => (i : Int)).map V.int := by
      unfold rgV
      rw [List.map_map, Int.sub_zero, Int.toNat_natCast]
      exact List.map_congr_left fun i _ => by show V.int (0 + (i : Int)) = V.int (i : Int); rw [Int.zero_add]
    rw [e]
    refine h.2 (.ref q) _ (e1.trans (Ex.new hq)) (.lst (rg_news h.1.dom h.1.h0x (Ex.refl _) (Ex.free e1 hq) upd_same) (RepL.ints _))⟩
end
section
variable {Z : Fr} {H : Hp} {σ : L2.St} {Γ : List SV}
theorem Holds.fewer {ex' : List Addr} {gs' : List GS} (h : Holds Z σ H Γ) (sub : ∀ a ∈ ex', a ∈ Z.ex) (sg : ∀ g ∈ gs', g ∈ Z.gs ∧ ∀ a ∈ g.as, a ∈ ex') (ha : Apart gs') : Holds { Z with ex := ex', gs := gs' } σ H Γ := by
  have hO : ∀ a ∈ ex' ++ owns σ Γ, a ∈ Z.O σ Γ ∨ H a = none := fun a ha => by
    rcases List.mem_append.mp ha with z | z
    · exact .inl (List.mem_append_left _ (sub a z))
    · exact .inl (List.mem_append_right _ z)
  refine ⟨fun B hB => ⟨(h.ext B hB).1, fun l hl => ?_⟩, fun l hl => h.exd l (sub l hl), h.len, h.nd, fun i o sv e1 e2 => (h.ok i o sv e1 e2).mono hO (Ex.refl _), fun g hgm => ?_, ha, h.fnt⟩
  · rcases List.mem_append.mp hl with z | z
    · exact (h.ext B hB).2 l (List.mem_append_left _ (sub l z))
    · exact (h.ext B hB).2 l (List.mem_append_right _ z)
  · obtain ⟨k1, k2⟩ := sg g hgm
    obtain ⟨h1, h2, h3⟩ := h.gok g k1
    exact ⟨k2, h2, g.mono (rg_ex hO (Ex.refl _) (Ex.refl _)) h3⟩
end
section
variable {X : Cx} {a b : Expr} {pos : Pos} {rest : List Stmt} {E : Ends} {σ : L2.St} {H : Hp} {Z : Fr} {Γ : List SV} {ma : Nat} {da : D} {tb : TE}
/-- x, y = a datum, what tb says -/
theorem w_par2W {x y : Str} {px py pt : Pos} {kt k2 : Nat} {pt2 : Pos} (i j : Nat) (ha : PE X a (tD Z Γ ma da)) (hb : PE X b tb) (h : Holds Z σ H Γ)
    (k : ∀ v H1, Ex H H1 → Holds Z σ H1 Γ → Rep (rg ma (Z.O σ Γ) Z.h0 H H1) v da → tb σ H1 fun u H2 => wp X rest E ((σ.set i (some v)).set j (some u)) H2) (hN : X.N.Nodup)
    (hc : X.calm = true := by rfl) (hi : X.N[i]? = some x := by rfl) (hj : X.N[j]? = some y := by rfl) (hij : i ≠ j := by decide) (hx : X.env.scope.names.lookup x = some .local := by rfl) (hy : X.env.scope.names.lookup y = some .local := by rfl)
    (hs1 : starEach [a, b] X.env = (false, eval a X.env) :: starEach [b] X.env := by rfl) (hs2 : starEach [b] X.env = (false, eval b X.env) :: starEach [] X.env := by rfl)
    (hw : swappedStores [.Tuple [.Name x px, .Name y py] kt pt] (.Tuple [a, b] k2 pt2) X.env = pure (some [x, y]) := by rfl)
    (hs : swapsWithSole [.Tuple [.Name x px, .Name y py] kt pt] (.Tuple [a, b] k2 pt2) pos.line X.env = pure false := by rfl) :
    wp X (.Assign [.Tuple [.Name x px, .Name y py] kt pt] (.Tuple [a, b] k2 pt2) pos :: rest) E σ H :=
  wp_cons (ps_par hc hN hi hj hij hx hy (ta := tWs X [a, b]) (pa_cons wE_ok (pa_cons wE_ok pa_nil hs2) hs1) hw hs) ⟨_, ha, h, fun v H1 e1 r1 => ⟨_, pe_strong hb, fun u H2 => wp X rest E ((σ.set i (some v)).set j (some u)) H2, fun u H2 q => ⟨v, u, rfl, q⟩, k v H1 e1 (h.grow e1) r1⟩⟩
/-- .. by a tuple (cells too) -/
theorem w_part2W {tgs : List Expr} {kt k2 : Nat} {pt pt2 : Pos} (i j : Nat) (ha : PE X a (tD Z Γ ma da)) (hb : PE X b tb) (h : Holds Z σ H Γ)
    (k : ∀ v H1, Ex H H1 → Holds Z σ H1 Γ → Rep (rg ma (Z.O σ Γ) Z.h0 H H1) v da → tb σ H1 fun u H2 => ∀ H3, Ex H2 H3 → wp X rest E ((σ.set i (some v)).set j (some u)) H3)
    (hg : PG X (.Tuple tgs kt pt) (gTup X.K 2 (gPs X.K [.nm i, .nm j]))) (hpa : PA X [a, b] (tWs X [a, b]) := by exact pa_cons wE_ok (pa_cons wE_ok pa_nil rfl) rfl)
    (hs : swapsWithSole [.Tuple tgs kt pt] (.Tuple [a, b] k2 pt2) pos.line X.env = pure false := by rfl) (hw : swappedStores [.Tuple tgs kt pt] (.Tuple [a, b] k2 pt2) X.env = pure none := by rfl) (h1 : (assignEach [.Tuple tgs kt pt] X.env).map (·.2) = [assign (.Tuple tgs kt pt) X.env] := by rfl) :
    wp X (.Assign [.Tuple tgs kt pt] (.Tuple [a, b] k2 pt2) pos :: rest) E σ H :=
  wp_cons (ps_asg (pe_tup hpa) hg hs hw h1) ⟨_, ha, h, fun v H1 e1 r1 => ⟨_, pe_strong hb, fun u H2 => ∀ H3, Ex H2 H3 → wp X rest E ((σ.set i (some v)).set j (some u)) H3, fun u H2 q => ⟨two_sz, fun p hp => ⟨p, [v, u], rfl, .of upd_same, rfl, by
    simp only [gPs, gP, gCons, gNil, gName]
    exact ⟨v, [u], rfl, u, [], rfl, rfl, q _ (Ex.new hp)⟩⟩⟩, k v H1 e1 (h.grow e1) r1⟩⟩
end
end DL

set_option Elab.async false
set_option linter.all false
set_option maxRecDepth 100000
set_option maxHeartbeats 4000000
/-! DL51: a hidden dict whose keys are pairs (tuple of ints, int), its values truth values. -/
namespace DL
open PySem L2
abbrev NK := List Int × Int
def nkey (k : NK) : NestedKey := .tup [.tup (k.1.map NestedKey.num), .num k.2]
abbrev nD (k : NK) : D := .tup [dT k.1, .int k.2]
abbrev NE := NK × Addr × Bool
abbrev NRow := List (NK × Bool)
def nxe (x : NE) : NestedKey × Addr × Value := (nkey x.1, x.2.1, .bool x.2.2)
theorem nkey_inj {a b : NK} (h : nkey a = nkey b) : a = b := by
  obtain ⟨a1, a2⟩ := a
  obtain ⟨b1, b2⟩ := b
  injection h with h
  injection h with h1 h2
  injection h1 with h1
  injection h2 with h2 _
  injection h2 with h2
  have : a1 = b1 := (List.map_inj_right fun x y e => by injection e).mp h1
  exact Prod.ext this h2
theorem depth_nums : ∀ ns : List Int, NestedKey.depthAll (ns.map NestedKey.num) = 0
  | [] => rfl
  | n :: ns => by rw [List.map_cons, NestedKey.depthAll, depth_nums ns]; rfl
theorem nkey_depth (k : NK) : (nkey k).depth ≤ 8 := by
  unfold nkey
  simp only [NestedKey.depth, NestedKey.depthAll, depth_nums]
  decide
theorem nall_ints {h : Heap} : ∀ {ns : List Int} {its : List Value}, Vals (ns.map V.int) its → NestedAll h (ns.map NestedKey.num) its
  | [], _, r => by cases r; exact .nil
  | n :: ns, _, r => by
    cases r with
    | cons h1 h2 =>
      obtain ⟨t, rfl⟩ := h1
      exact .cons (.int _ _) (nall_ints h2)
section
variable {P : Program} {w : World} {H : Hp} {h : Heap} {a : Addr} {v : V} {k : NK}
theorem key_nest (ok : HOk P w H h) (r : Rep H v (nD k)) : ∃ b, v = .ref b ∧ (nestedKind P w).is h (nkey k) b := by
  cases r with
  | @tup b vs _ h1 h2 =>
    refine ⟨b, rfl, ?_, nkey_depth k⟩
    cases h2 with
    | cons r1 r2 =>
      cases r2 with
      | cons r2 r3 =>
        cases r3
        cases r2
        cases r1 with
        | @tup c us _ k1 k2 =>
          rw [RepL.ints_inv k2] at k1
          obtain ⟨_, its, q, o, e1, e2, n, e3⟩ := (show ObjOk P w H h c (.tup (k.1.map V.int)) from ok c _ k1)
          obtain ⟨_, jts, p, o', d1, d2, n', d3⟩ := (show ObjOk P w H h b (.tup [.ref c, .int k.2]) from ok b _ h1)
          cases p with
          | cons p1 p2 =>
            cases p2 with
            | cons p2 p3 =>
              cases p3
              obtain rfl := p1
              obtain ⟨t, rfl⟩ := p2
              exact .tup d1 d2 d3 (.cons (.tup e1 e2 e3 (by simpa using nall_ints q)) (.cons (.int _ _) .nil))
def ndφ (P : Program) (w : World) (a : Addr) (ks : List NE) (h : Heap) : Prop := (a == sysModules) = false ∧ ∃ o es ep, h.get? a = some o ∧ o.ExactDict ∧ o.data = .dict es ep ∧ es.toList = (ks.map nxe).map (entryOfKey (nestedKind P w)) ∧ ((ks.map nxe).map (·.1)).Nodup
def ndO (P : Program) (w : World) (a : Addr) (ks : List NE) : HO := .ext (ndφ P w a ks)
theorem nd_at {ks : List NE} (ok : HOk P w H h) (e : H a = some (ndO P w a ks)) (hk : ∀ x ∈ ks, Rep H (.ref x.2.1) (nD x.1)) : (a == sysModules) = false ∧ h.DictOfH (nestedKind P w) a (ks.map nxe) := by
  obtain ⟨⟨z, o, es, ep, h1, h2, h3, h4, h5⟩, _⟩ := (show ObjOk P w H h a (.ext (ndφ P w a ks)) from ok a _ e)
  refine ⟨z, o, es, ep, h1, h2, h3, h4, fun x hx => ?_, h5⟩
  obtain ⟨y, hy, rfl⟩ := List.mem_map.mp hx
  obtain ⟨b, e1, e2⟩ := key_nest ok (hk y hy)
  cases e1
  exact e2
theorem nd_ok {ks : List NE} (z : (a == sysModules) = false) (d : h.DictOfH (nestedKind P w) a (ks.map nxe)) : ObjOk P w H h a (ndO P w a ks) := by
  obtain ⟨o, es, ep, h1, h2, h3, h4, _, h5⟩ := d
  exact ⟨⟨z, o, es, ep, h1, h2, h3, h4, h5⟩, ⟨o, h1⟩, fun g1 g2 ⟨z, o, es, ep, h1, h2, h3, h4, h5⟩ hh => ⟨z, o, es, ep, hh o h1, h2, h3, h4, h5⟩⟩
end
def nGet (row : NRow) (k : NK) : Option Bool := (row.find? fun p => decide (p.1 = k)).map (·.2)
abbrev neRow (ks : List NE) : NRow := ks.map fun x => (x.1, x.2.2)
theorem nGet_at (k : NK) : ∀ ks : List NE, (atKey (ks.map nxe) (nkey k)).map (·.2) = (nGet (neRow ks) k).map Value.bool
  | [] => rfl
  | x :: ks => by
    have ih := nGet_at k ks
    unfold atKey nGet neRow at ih ⊢
    rw [List.map_cons, List.map_cons, List.find?_cons, List.find?_cons]
    by_cases z : x.1 = k
    · rw [show decide ((nxe x).1 = nkey k) = true from decide_eq_true (by rw [← z]; rfl), show decide ((x.1, x.2.2).1 = k) = true from decide_eq_true z]
      rfl
    · rw [show decide ((nxe x).1 = nkey k) = false from decide_eq_false (fun y => z (nkey_inj y)), show decide ((x.1, x.2.2).1 = k) = false from decide_eq_false z]
      exact ih
theorem atKey_some {k : NK} {ks : List NE} {b : Bool} (h : nGet (neRow ks) k = some b) : ∃ p, atKey (ks.map nxe) (nkey k) = some p ∧ p.2 = Value.bool b := by
  have q := nGet_at k ks
  rw [h] at q
  exact Option.map_eq_some_iff.mp q
theorem atKey_isSome (k : NK) (ks : List NE) : (atKey (ks.map nxe) (nkey k)).isSome = (nGet (neRow ks) k).isSome := by
  have q := congrArg Option.isSome (nGet_at k ks)
  rw [Option.isSome_map, Option.isSome_map] at q
  exact q
theorem nGet_push (row : NRow) (k : NK) (b : Bool) (k' : NK) (h : nGet row k = none) : nGet (row ++ [(k, b)]) k' = if k' = k then some b else nGet row k' := by
  unfold nGet at *
  rw [List.find?_append]
  by_cases z : k' = k
  · subst z
    rw [if_pos rfl]
    rw [Option.map_eq_none_iff] at h
    rw [h]
    simp
  · rw [if_neg z]
    have : List.find? (fun p : NK × Bool => decide (p.1 = k')) [(k, b)] = none := by
      rw [List.find?_cons, show decide ((k, b).1 = k') = false from decide_eq_false (fun y => z y.symm)]; rfl
    rw [this, Option.or_none]
/-- the dict, told -/
def gN (P : Program) (w : World) (m : Nat) (a : Addr) (row : NRow) : GS where
  as := [a]
  m := m
  P := fun R O => ∃ ks : List NE, neRow ks = row ∧ O a = some (ndO P w a ks) ∧ ∀ x ∈ ks, Rep R (.ref x.2.1) (nD x.1)
  mono := fun e ⟨ks, h1, h2, h3⟩ => ⟨ks, h1, h2, fun x hx => (h3 x hx).mono e⟩
/-- such a dict stands at a -/
def NAt (P : Program) (w : World) (H : Hp) (a : Addr) (ks : List NE) : Prop := H a = some (ndO P w a ks) ∧ ∀ x ∈ ks, Rep H (.ref x.2.1) (nD x.1)
def tNGet (P : Program) (w : World) (td ty : TE) : TE := fun σ H Q => td σ H fun x H1 => ty σ H1 fun y H2 => ∃ a ks k b, x = .ref a ∧ NAt P w H2 a ks ∧ Rep H2 y (nD k) ∧ nGet (neRow ks) k = some b ∧ Q (.bl b) H2
def tNIn (P : Program) (w : World) (ty td : TE) (neg : Bool) : TE := fun σ H Q => ty σ H fun y H1 => td σ H1 fun x H2 => ∃ a ks k, x = .ref a ∧ NAt P w H2 a ks ∧ Rep H2 y (nD k) ∧ Q (.bl (neg != (nGet (neRow ks) k).isSome)) H2
def tNGet2 (P : Program) (w : World) (td ty tx : TE) : TE := fun σ H Q => td σ H fun x H1 => ∃ a, x = .ref a ∧ (∃ ks, NAt P w H1 a ks) ∧ ty σ H1 fun y H2 => tx σ H2 fun z H3 => ∃ ks k c, NAt P w H3 a ks ∧ Rep H3 y (nD k) ∧ z = .bl c ∧ Q (.bl ((nGet (neRow ks) k).getD c)) H3
def sNPut (P : Program) (w : World) (td ty tv : TE) : TS := fun D σ H => tv σ H fun v H1 => td σ H1 fun x H2 => ty σ H2 fun y H3 => ∃ a ks k b c, x = .ref a ∧ NAt P w H3 a ks ∧ y = .ref c ∧ Rep H3 (.ref c) (nD k) ∧ v = .bl b ∧ nGet (neRow ks) k = none ∧ ks.length < sizeLine ∧ D.nx σ (upd H3 a (ndO P w a (ks ++ [(k, c, b)])))
section
variable {X : Cx} {o i e f value : Expr} {pos pos' apos cpos : Pos} {td ty tv tx : TE}
theorem room_nested {A : Around} (hu : A.units + 64 < cLine) : (nestedKind X.prog X.w).room A.in1 := by
  show A.in1.units + 8 < cLine
  rw [Around.in1_units]; omega
theorem rel_bl {b : Bool} {u : Value} (r : RelV (.bl b) u) : u = .bool b := r
theorem pe_nget (hu : X.A.units + 64 < cLine) (ho : PE X o td) (hi : PE X i ty) (hs : NoSl i) : PE X (.Subscript o i pos) (tNGet X.prog X.w td ty) := by
  refine ⟨fun pins s σ H Q I h => ?_⟩
  refine subD_of PySem.F.slot_dict_getitem.lookup hs (thn (ho.run pins s σ H _ I h) fun u s1 ⟨x, H1, I1, rx, q1⟩ => thn (hi.run pins s1 σ H1 _ I1 q1) fun iv s2 ⟨y, H2, I2, ry, a, ks, k, b, ex, g, r, l, q2⟩ => ?_)
  subst ex
  obtain rfl : u = Value.ref a := rx
  obtain ⟨_, dd⟩ := nd_at I2.hok g.1 g.2
  obtain ⟨c, rfl, kk⟩ := key_nest (P := X.prog) (w := X.w) I2.hok r
  obtain rfl : iv = Value.ref c := ry
  obtain ⟨p, hp, hp2⟩ := atKey_some l
  refine ⟨dd.typeIs, wpAny_getItem_heap (room_nested hu) kk dd hp ⟨.bl b, H2, I2.tok _, ?_, q2⟩⟩
  rw [hp2]; rfl
theorem pc_nin (hu : X.A.units + 64 < cLine) (hi : PE X i ty) (ho : PE X o td) : PC X .In i o (tNIn X.prog X.w ty td false) := by
  refine ⟨fun pins s σ H Q I h => ?_⟩
  refine thn (hi.run pins s σ H _ I h) fun iv s1 ⟨y, H1, I1, ry, q1⟩ => thn (ho.run pins s1 σ H1 _ I1 q1) fun u s2 ⟨x, H2, I2, rx, a, ks, k, ex, g, r, q2⟩ => ?_
  subst ex
  obtain rfl : u = Value.ref a := rx
  obtain ⟨z, dd⟩ := nd_at I2.hok g.1 g.2
  obtain ⟨c, rfl, kk⟩ := key_nest (P := X.prog) (w := X.w) I2.hok r
  obtain rfl : iv = Value.ref c := ry
  refine wpAny_in_heap (room_nested hu) kk z dd ⟨_, H2, I2.tok _, ?_, q2⟩
  rw [atKey_isSome, Bool.false_bne]; rfl
theorem pc_nnotin (hu : X.A.units + 64 < cLine) (hi : PE X i ty) (ho : PE X o td) : PC X .NotIn i o (tNIn X.prog X.w ty td true) := by
  refine ⟨fun pins s σ H Q I h => ?_⟩
  refine thn (hi.run pins s σ H _ I h) fun iv s1 ⟨y, H1, I1, ry, q1⟩ => thn (ho.run pins s1 σ H1 _ I1 q1) fun u s2 ⟨x, H2, I2, rx, a, ks, k, ex, g, r, q2⟩ => ?_
  subst ex
  obtain rfl : u = Value.ref a := rx
  obtain ⟨z, dd⟩ := nd_at I2.hok g.1 g.2
  obtain ⟨c, rfl, kk⟩ := key_nest (P := X.prog) (w := X.w) I2.hok r
  obtain rfl : iv = Value.ref c := ry
  refine PyProof.Rows.wpAny_notIn_heap (room_nested hu) kk z dd ⟨_, H2, I2.tok _, ?_, q2⟩
  rw [atKey_isSome, Bool.true_bne]; rfl
theorem pe_nget2 (hu : X.A.units + 64 < cLine) (ho : PE X o td) (he : PE X e ty) (hf : PE X f tx) (m : M2 X o "get" apos e f cpos) : PE X (.Call (.Attribute o "get" apos) [e, f] [] cpos) (tNGet2 X.prog X.w td ty tx) := by
  refine ⟨fun pins s σ H Q I h => ?_⟩
  refine wpAny_Call_method m.base m.few m.line PySem.F.plainAttrs_dict PySem.F.slot_dict_get PySem.F.type_dict_get (thn (ho.run pins s σ H _ I h) fun u s1 ⟨x, H1, I1, rx, a, ex, ⟨ks0, g0⟩, q1⟩ => ?_)
  subst ex
  obtain rfl : u = Value.ref a := rx
  obtain ⟨_, d0⟩ := nd_at I1.hok g0.1 g0.2
  refine ⟨d0.typeIs, fun b q => ?_, ?_⟩
  · cases q
    obtain ⟨ob, _, _, h1, h2, _⟩ := d0
    exact ⟨ob, h1, h2.2.1⟩
  rw [m.trees]
  refine Calls.callWith_builtin rfl (Calls.evalArgs_plain (Calls.spliced_cons (thn (he.run pins s1 σ H1 _ I1 q1) fun iv s2 ⟨y, H2, I2, ry, q2⟩ =>
    Calls.spliced_cons (thn (hf.run pins s2 σ H2 _ I2 q2) fun fv s3 ⟨z, H3, I3, rz, ks, k, c, g, r, ez, q3⟩ => Calls.spliced_nil ?_))))
  subst ez
  obtain rfl : fv = Value.bool c := rz
  obtain ⟨z, dd⟩ := nd_at I3.hok g.1 g.2
  obtain ⟨c', rfl, kk⟩ := key_nest (P := X.prog) (w := X.w) I3.hok r
  obtain rfl : iv = Value.ref c' := ry
  refine call_meetsIn PySem.F.slot_dict_get dd.typeIs PySem.F.entry_dict_get (PySem.F.args_dict_get_3 _ _ _) (meetsH_dict_get_default (nestedKind X.prog X.w) a c' z (.bool c)) ⟨room_nested hu, nkey k, ks.map nxe, kk, dd, ⟨_, H3, I3.tok _, ?_, q3⟩⟩
  rw [nGet_at]
  cases nGet (neRow ks) k <;> rfl
theorem ps_nput (hu : X.A.units + 64 < cLine) (ho : PE X o td) (hi : PE X i ty) (hv : PE X value tv) (hs : swapsWith value (some (.Subscript o i pos')) pos.line X.env = pure false) :
    PS X (.Assign [.Subscript o i pos'] value pos) (sNPut X.prog X.w td ty tv) := by
  refine ⟨fun pins s σ H D I h => ?_⟩
  refine wpAny_Assign_Subscript (thn (hv.run pins s σ H _ I h) fun r s1 ⟨v, H1, I1, rv, q1⟩ => thn (ho.run pins s1 σ H1 _ I1 q1) fun u s2 ⟨x, H2, I2, rx, q2⟩ => thn (hi.run pins s2 σ H2 _ I2 q2) fun iv s3 ⟨y, H3, I3, ry, a, ks, k, b, c, ex, g, ey, rk, ev, l, hlen, q3⟩ => ?_) hs
  subst ex ey ev
  obtain rfl : u = Value.ref a := rx
  obtain rfl : iv = Value.ref c := ry
  obtain rfl : r = Value.bool b := rv
  obtain ⟨z, dd⟩ := nd_at I3.hok g.1 g.2
  obtain ⟨c', e', kk⟩ := key_nest (P := X.prog) (w := X.w) I3.hok rk
  cases e'
  refine wpAny_setItem_heap (hsz := by rw [List.length_map]; exact Nat.le_of_lt hlen) (room_nested hu) kk dd fun h' dd' hs' => ⟨σ, _, ?_, q3⟩
  have hn : atKey (ks.map nxe) (nkey k) = none := by
    have q := atKey_isSome k ks
    rw [l] at q
    exact Option.not_isSome_iff_eq_none.mp (by rw [q]; simp)
  rw [storedH_new hn] at dd'
  have e2 : ks.map nxe ++ [(nkey k, c, .bool b)] = (ks ++ [(k, c, b)]).map nxe := by rw [List.map_append]; rfl
  rw [e2] at dd'
  have he : ∃ q, h'.get? a = some q := let ⟨q, _, _, hq, _⟩ := dd'; ⟨q, hq⟩
  exact d_write I3 (by rw [g.1]; exact True.intro) hs' he (nd_ok z dd')
end
section
variable {P : Program} {w : World} {X : Cx} {o kx e f : Expr} {pos apos cpos : Pos} {rest : List Stmt} {E : Ends} {σ : L2.St} {H : Hp} {Z : Fr} {Γ : List SV} {m ma mb mt mr i j : Nat} {a : Addr} {row : NRow} {k : NK} {b c : Bool}
theorem Holds.nAt (h : Holds Z σ H Γ) (hg : gN P w mt a row ∈ Z.gs) : ∃ ks, neRow ks = row ∧ NAt P w H a ks ∧ ∀ x ∈ ks, Rep (rg mt (Z.O σ Γ) Z.h0 Z.h0 H) (.ref x.2.1) (nD x.1) := by
  obtain ⟨ks, h1, h2, h3⟩ := (h.gok _ hg).2.2
  exact ⟨ks, h1, ⟨(only_some h2).2, fun x hx => (h3 x hx).mono rg_le⟩, h3⟩
/-- d[k] -/
theorem d_getN (hu : X.A.units + 64 < cLine) (hg : gN X.prog X.w mt a row ∈ Z.gs) (ho : PE X o (tR Z Γ (.ref a))) (hk : PE X kx (tD Z Γ mb (nD k))) (hb : nGet row k = some b) (hs : NoSl kx := by exact fun _ _ => rfl) : PE X (.Subscript o kx pos) (tD Z Γ mr (.bl b)) :=
  pe_imp (pe_nget hu ho hk hs) fun σ H Q h => ⟨h.1, fun H1 e1 => ⟨h.1.grow e1, fun v H2 e2 r => by
    obtain ⟨ks, k1, k2, _⟩ := (h.1.grow (e1.trans e2)).nAt hg
    exact ⟨a, ks, k, b, rfl, k2, r.mono rg_le, by rw [k1]; exact hb, h.2 _ H2 (e1.trans e2) (.bl b)⟩⟩⟩
theorem t_notInN (hu : X.A.units + 64 < cLine) (hg : gN X.prog X.w mt a row ∈ Z.gs) (hk : PE X kx (tD Z Γ mb (nD k))) (ho : PE X o (tR Z Γ (.ref a))) (hm : behindInMarks .NotIn o = false := by rfl) : PT X (.Compare kx [.NotIn] [o] pos) (tDT Z Γ (!(nGet row k).isSome)) :=
  pt_imp (pt_cmp (pc_nnotin hu hk ho) hm) fun σ H Q h => ⟨h.1, fun v H1 e1 r => ⟨h.1.grow e1, fun H2 e2 => by
    obtain ⟨ks, k1, k2, _⟩ := (h.1.grow (e1.trans e2)).nAt hg
    refine ⟨a, ks, k, rfl, k2, (r.mono rg_le).mono e2, ⟨_, rfl, ?_⟩⟩
    rw [k1, Bool.true_bne]
    exact h.2 H2 (e1.trans e2)⟩⟩
theorem t_inN (hu : X.A.units + 64 < cLine) (hg : gN X.prog X.w mt a row ∈ Z.gs) (hk : PE X kx (tD Z Γ mb (nD k))) (ho : PE X o (tR Z Γ (.ref a))) (hm : behindInMarks .In o = false := by rfl) : PT X (.Compare kx [.In] [o] pos) (tDT Z Γ (nGet row k).isSome) :=
  pt_imp (pt_cmp (pc_nin hu hk ho) hm) fun σ H Q h => ⟨h.1, fun v H1 e1 r => ⟨h.1.grow e1, fun H2 e2 => by
    obtain ⟨ks, k1, k2, _⟩ := (h.1.grow (e1.trans e2)).nAt hg
    refine ⟨a, ks, k, rfl, k2, (r.mono rg_le).mono e2, ⟨_, rfl, ?_⟩⟩
    rw [k1, Bool.false_bne]
    exact h.2 H2 (e1.trans e2)⟩⟩
/-- d.get(k, False) -/
theorem d_getN2 (hu : X.A.units + 64 < cLine) (hg : gN X.prog X.w mt a row ∈ Z.gs) (ho : PE X o (tR Z Γ (.ref a))) (hk : PE X e (tD Z Γ mb (nD k))) (hf : PE X f (tD Z Γ ma (.bl c))) (mm : M2 X o "get" apos e f cpos) : PE X (.Call (.Attribute o "get" apos) [e, f] [] cpos) (tD Z Γ mr (.bl ((nGet row k).getD c))) :=
  pe_imp (pe_nget2 hu ho hk hf mm) fun σ H Q h => ⟨h.1, fun H1 e1 => by
    obtain ⟨ks0, _, k0, _⟩ := (h.1.grow e1).nAt hg
    refine ⟨a, rfl, ⟨ks0, k0⟩, h.1.grow e1, fun v H2 e2 r => ⟨h.1.grow (e1.trans e2), fun v3 H3 e3 r3 => ?_⟩⟩
    cases r3
    obtain ⟨ks, k1, k2, _⟩ := (h.1.grow ((e1.trans e2).trans e3)).nAt hg
    exact ⟨ks, k, c, k2, (r.mono rg_le).mono e3, rfl, by rw [k1]; exact h.2 _ H3 ((e1.trans e2).trans e3) (.bl _)⟩⟩
/-- d[k] = e, k not there -/
theorem w_putN {kpos : Pos} (hu : X.A.units + 64 < cLine) (j : Nat) (hj : Z.gs[j]? = some (gN X.prog X.w mt a row)) (he : PE X e (tD Z Γ ma (.bl b))) (ho : PE X o (tR Z Γ (.ref a))) (hk : PE X kx (tD Z Γ mb (nD k))) (hn : nGet row k = none) (hl : row.length < 1000000) (h : Holds Z σ H Γ)
    (kk : ∀ H', Holds { Z with gs := Z.gs.set j (gN X.prog X.w mt a (row ++ [(k, b)])) } σ H' Γ → wp X rest E σ H') (hmb : mt ≤ mb := by decide) (hm1 : 1 ≤ mt := by decide) (hm2 : mt ≤ 2 := by decide) (hz : noz Γ = true := by rfl)
    (hs : swapsWith e (some (.Subscript o kx kpos)) pos.line X.env = pure false := by rfl) : wp X (.Assign [.Subscript o kx kpos] e pos :: rest) E σ H :=
  wp_cons (ps_nput hu ho hk he hs) ⟨h, fun v H1 e1 rv => ⟨h.grow e1, fun H2 e2 => ⟨h.grow (e1.trans e2), fun y H3 e3 ry => by
    have hg : gN X.prog X.w mt a row ∈ Z.gs := List.mem_of_getElem? hj
    have h2 := h.grow (e1.trans e2)
    have h3 := h2.grow e3
    obtain ⟨ks, k1, k2, k3⟩ := h3.nAt hg
    cases rv
    obtain ⟨c, rfl, hc⟩ : ∃ c, y = .ref c ∧ True := by cases ry; exact ⟨_, rfl, trivial⟩
    have hlen : ks.length < sizeLine := by
      have q : ks.length = row.length := by rw [← k1, List.length_map]
      rw [q]; exact Nat.lt_of_lt_of_le hl (by decide)
    refine ⟨a, ks, k, b, c, rfl, k2, rfl, ry.mono rg_le, rfl, by rw [k1]; exact hn, hlen, kk _ ?_⟩
    have hx : a ∈ Z.ex := (h3.gok _ hg).1 _ List.mem_cons_self
    have hxO : a ∈ Z.O σ Γ := List.mem_append_left _ hx
    have up : Ex (rg mt (Z.O σ Γ) Z.h0 Z.h0 H3) (rg mt (Z.O σ Γ) Z.h0 Z.h0 (upd H3 a (ndO X.prog X.w a (ks ++ [(k, c, b)])))) := rg_mut hm1 hxO
    have ry' : Rep (rg mt (Z.O σ Γ) Z.h0 Z.h0 H3) (.ref c) (nD k) := by
      have q := ry.mono (rg_down hmb h2.h0x)
      rw [rg_same hm2] at q
      exact q
    refine h3.turn1 hj rfl List.mem_cons_self hz ⟨(h3.gok _ hg).1, hm1, ks ++ [(k, c, b)], by rw [neRow, List.map_append]; exact congrArg (· ++ [(k, b)]) k1, by show only [a] _ a = _; rw [only_at List.mem_cons_self, upd_same], fun x hx => ?_⟩
    rcases List.mem_append.mp hx with z | z
    · exact (k3 x z).mono up
    · rw [List.mem_singleton.mp z]; exact ry'.mono up⟩⟩⟩
end
end DL

set_option Elab.async false
set_option linter.all false
set_option maxRecDepth 100000
/-! M28: whether a fall can come just so many ticks later; what is known of that. -/
namespace M
open PySem L2 DL
def canB (nx : List Int → List Nx) (n : Nat) (st : List Int) : Bool := !(allP nx n st).isEmpty
section
variable {nx : List Int → List Nx} {gs : List Int} {row : NRow}
theorem canB_zero (st : List Int) : canB nx 0 st = true := by unfold canB; rw [allP_zero]; rfl
theorem canB_succ (hp : ∀ st, ∀ x ∈ nx st, 1 ≤ x.2.1) {r : Nat} (hr : r ≠ 0) (st : List Int) : canB nx r st = (nxW nx r st).any fun x => canB nx (r - x.2.1.toNat) x.2.2 := by
  unfold canB
  rw [allP_succ hp hr]
  generalize nxW nx r st = xs
  induction xs with
  | nil => rfl
  | cons x xs ih =>
    rw [List.flatMap_cons, List.any_cons, ← ih]
    have e : (nextP nx r x).isEmpty = (allP nx (r - x.2.1.toNat) x.2.2).isEmpty := List.isEmpty_map
    rw [← e]
    cases nextP nx r x <;> rfl
/-- what is known is right -/
structure NI (nx : List Int → List Nx) (gs : List Int) (row : NRow) : Prop where
  ent : ∀ p ∈ row, 1 ≤ p.1.2 ∧ p.1.2 ≤ 40 ∧ St gs p.1.1 ∧ p.2 = canB nx p.1.2.toNat p.1.1
  nd : (row.map (·.1)).Nodup
theorem NI.nil : NI nx gs [] := ⟨fun p h => (by cases h), List.nodup_nil⟩
theorem nGet_mem {k : NK} {b : Bool} (h : nGet row k = some b) : (k, b) ∈ row := by
  unfold nGet at h
  obtain ⟨p, h1, h2⟩ := Option.map_eq_some_iff.mp h
  have e : p.1 = k := by simpa using List.find?_some h1
  have m := List.mem_of_find?_eq_some h1
  obtain ⟨p1, p2⟩ := p
  dsimp only at e h2
  rw [← e, ← h2]
  exact m
theorem nGet_none {k : NK} : nGet row k = none ↔ k ∉ row.map (·.1) := by
  unfold nGet
  rw [Option.map_eq_none_iff, List.find?_eq_none]
  constructor
  · intro h z
    obtain ⟨p, hp, e⟩ := List.mem_map.mp z
    exact h p hp (decide_eq_true e)
  · intro h p hp z
    exact h (List.mem_map.mpr ⟨p, hp, of_decide_eq_true z⟩)
theorem NI.get (h : NI nx gs row) {k : NK} {b : Bool} (e : nGet row k = some b) : b = canB nx k.2.toNat k.1 := (h.ent _ (nGet_mem e)).2.2.2
theorem NI.put (h : NI nx gs row) {k : NK} (e : nGet row k = none) (h1 : 1 ≤ k.2) (h2 : k.2 ≤ 40) (h3 : St gs k.1) {b : Bool} (hb : b = canB nx k.2.toNat k.1) : NI nx gs (row ++ [(k, b)]) := by
  refine ⟨fun p hp => ?_, ?_⟩
  · rcases List.mem_append.mp hp with z | z
    · exact h.ent p z
    · rw [List.mem_singleton.mp z]; exact ⟨h1, h2, h3, hb⟩
  · rw [List.map_append]
    refine List.nodup_append.mpr ⟨h.nd, by simp, fun a ha b hb => ?_⟩
    rw [List.mem_singleton.mp hb]
    exact fun e' => nGet_none.mp e (by rw [← show a = k from e']; exact ha)
theorem NI.len (hG : Gl gs) (h : NI nx gs row) : row.length ≤ 87880 := by
  have h1 : (row.map (·.1)).length ≤ ((box gs.length).flatMap fun st => (List.range 40).map fun t : Nat => ((st, (t : Int) + 1) : NK)).length := h.nd.length_le_of_subset fun k hk => by
    obtain ⟨p, hp, rfl⟩ := List.mem_map.mp hk
    obtain ⟨k1, k2, k3, _⟩ := h.ent p hp
    refine List.mem_flatMap.mpr ⟨p.1.1, box_mem (fun g hg => (hG.all g hg).2) k3, List.mem_map.mpr ⟨(p.1.2 - 1).toNat, List.mem_range.mpr (by omega), ?_⟩⟩
    exact Prod.ext rfl (show ((p.1.2 - 1).toNat : Int) + 1 = p.1.2 by omega)
  rw [List.length_map, List.length_flatMap] at h1
  have e : ((box gs.length).map fun st => ((List.range 40).map fun t : Nat => ((st, (t : Int) + 1) : NK)).length) = List.replicate (box gs.length).length 40 := by
    rw [List.eq_replicate_iff]
    refine ⟨by rw [List.length_map], fun b hb => ?_⟩
    obtain ⟨st, _, rfl⟩ := List.mem_map.mp hb
    rw [List.length_map, List.length_range]
  rw [e, List.sum_replicate_nat, box_len] at h1
  have h2 : 13 ^ gs.length ≤ 13 ^ 3 := Nat.pow_le_pow_right (by decide) hG.hi
  omega
/-- what a stand leads on to, with the ticks that are left then -/
def sons (nx : List Int → List Nx) (r : Nat) (st : List Int) : List (List Int × Nat) := (nxW nx r st).map fun x => (x.2.2, r - x.2.1.toNat)
theorem canB_sons (hp : ∀ st, ∀ x ∈ nx st, 1 ≤ x.2.1) {r : Nat} (hr : r ≠ 0) (st : List Int) : canB nx r st = (sons nx r st).any fun c => canB nx c.2 c.1 := by
  rw [canB_succ hp hr, sons, List.any_map]; rfl
abbrev yesK (row : NRow) (c : List Int × Nat) : Bool := decide ((c.2 : Int) = 0) || (nGet row (c.1, (c.2 : Int))).getD false
abbrev newK (row : NRow) (c : List Int × Nat) : Bool := decide ((0 : Int) < (c.2 : Int)) && !(nGet row (c.1, (c.2 : Int))).isSome
theorem can_yes (hp : ∀ st, ∀ x ∈ nx st, 1 ≤ x.2.1) (ni : NI nx gs row) {r : Nat} (hr : r ≠ 0) {st : List Int} (h : (sons nx r st).any (yesK row) = true) : canB nx r st = true := by
  rw [canB_sons hp hr]
  obtain ⟨c, hc, e⟩ := List.any_eq_true.mp h
  refine List.any_eq_true.mpr ⟨c, hc, ?_⟩
  rcases Bool.or_eq_true_iff.mp e with z | z
  · have : c.2 = 0 := by have := of_decide_eq_true z; omega
    rw [this]; exact canB_zero _
  · cases q : nGet row (c.1, (c.2 : Int)) with
    | none => rw [q] at z; cases z
    | some b =>
      rw [q] at z
      have := ni.get q
      rw [show b = true from z] at this
      exact this.symm
theorem can_no (hp : ∀ st, ∀ x ∈ nx st, 1 ≤ x.2.1) (ni : NI nx gs row) {r : Nat} (hr : r ≠ 0) {st : List Int} (h : (sons nx r st).any (yesK row) = false) (h2 : (sons nx r st).filter (newK row) = []) : canB nx r st = false := by
  rw [canB_sons hp hr]
  refine List.any_eq_false.mpr fun c hc => ?_
  have h1 := List.any_eq_false.mp h c hc
  have h3 := List.filter_eq_nil_iff.mp h2 c hc
  obtain ⟨z1, z2⟩ := Bool.or_eq_false_iff.mp (Bool.eq_false_iff.mpr h1)
  have h0 : (0 : Int) < (c.2 : Int) := by have := of_decide_eq_false z1; omega
  cases q : nGet row (c.1, (c.2 : Int)) with
  | none => exact absurd (by unfold newK; rw [q, decide_eq_true h0]; rfl) h3
  | some b =>
    rw [q] at z2
    have := ni.get q
    rw [show b = false from z2] at this
    rw [← show false = canB nx c.2 c.1 from this]
    simp
theorem sons_mem {r : Nat} {st : List Int} {c : List Int × Nat} (h : c ∈ sons nx r st) : ∃ x ∈ nx st, x.2.1.toNat ≤ r ∧ c = (x.2.2, r - x.2.1.toNat) := by
  obtain ⟨x, hx, rfl⟩ := List.mem_map.mp h
  obtain ⟨k1, k2⟩ := nxW_mem.mp hx
  exact ⟨x, k1, k2, rfl⟩
/-- the line of can_fall -/
structure CI (gs : List Int) (row : NRow) (st : List Int) (n : Nat) (ln : List (List Int × Nat)) : Prop where
  ok : ∀ c ∈ ln, St gs c.1 ∧ 1 ≤ c.2
  dec : ln.Pairwise fun a b => b.2 < a.2
  ix : ∀ i c, ln[i]? = some c → c.2 + i ≤ 40
  un : ln.length = 1 ∨ ∀ c ∈ ln, nGet row (c.1, (c.2 : Int)) = none
  fin : (nGet row (st, (n : Int))).isSome = true ∨ (st, n) ∈ ln
def MuC (row : NRow) (ln : List (List Int × Nat)) : Nat := if ln = [] then 0 else (90000 - row.length) * 100 + (50 - ln.length) + 1
variable {st key : List Int} {n left : Nat} {s' ln : List (List Int × Nat)}
theorem CI.start (hst : St gs st) (h1 : 1 ≤ n) (h4 : n ≤ 40) : CI gs row st n [(st, n)] := by
  refine ⟨fun c hc => ?_, List.pairwise_singleton _ _, fun i c e => ?_, .inl rfl, .inr List.mem_cons_self⟩
  · rw [List.mem_singleton.mp hc]; exact ⟨hst, h1⟩
  · cases i with
    | zero => cases e; exact h4
    | succ i => cases e
theorem CI.len (h : CI gs row st n ln) : ln.length ≤ 40 := by
  rcases Nat.lt_or_ge 40 ln.length with z | z
  · have e := List.getElem?_eq_getElem (l := ln) (i := 40) z
    have h1 := h.ix _ _ e
    have h2 := (h.ok _ (List.getElem_mem z)).2
    omega
  · exact z
theorem CI.known (h : CI gs row st n (s' ++ [(key, left)])) (hk : (nGet row (key, (left : Int))).isSome = true) : s' = [] := by
  rcases h.un with z | z
  · rw [List.length_append, List.length_singleton] at z
    exact List.eq_nil_of_length_eq_zero (by omega)
  · rw [z (key, left) (List.mem_append_right _ List.mem_cons_self)] at hk; cases hk
theorem CI.drop (h : CI gs row st n (s' ++ [(key, left)])) (hk : (nGet row (key, (left : Int))).isSome = true) : CI gs row st n [] := by
  refine ⟨fun c hc => (by cases hc), List.Pairwise.nil, fun i c e => (by simp at e), .inr (fun c hc => (by cases hc)), .inl ?_⟩
  rcases h.fin with z | z
  · exact z
  · rw [h.known hk, List.nil_append] at z
    have e := List.mem_singleton.mp z
    cases e
    exact hk
theorem CI.put (h : CI gs row st n (s' ++ [(key, left)])) (hk : nGet row (key, (left : Int)) = none) (b : Bool) : CI gs (row ++ [((key, (left : Int)), b)]) st n s' := by
  have hd := List.pairwise_append.mp h.dec
  refine ⟨fun c hc => h.ok c (List.mem_append_left _ hc), hd.1, fun i c e => h.ix i c (by rw [List.getElem?_append_left (List.getElem?_eq_some_iff.mp e).1]; exact e), ?_, ?_⟩
  · rcases h.un with z | z
    · rw [List.length_append, List.length_singleton] at z
      exact .inr fun c hc => by rw [List.eq_nil_of_length_eq_zero (l := s') (by omega)] at hc; cases hc
    · refine .inr fun c hc => ?_
      have hlt := hd.2.2 c hc (key, left) List.mem_cons_self
      rw [nGet_push _ _ _ _ hk, if_neg (fun e => by
        have := congrArg Prod.snd e
        dsimp only at this hlt
        omega)]
      exact z c (List.mem_append_left _ hc)
  · rcases h.fin with z | z
    · refine .inl ?_
      rw [nGet_push _ _ _ _ hk]
      split
      · rfl
      · exact z
    · rcases List.mem_append.mp z with z | z
      · exact .inr z
      · have e := List.mem_singleton.mp z
        cases e
        refine .inl ?_
        rw [nGet_push _ _ _ _ hk, if_pos rfl]; rfl
theorem CI.push (h : CI gs row st n (s' ++ [(key, left)])) (hk : nGet row (key, (left : Int)) = none) {c : List Int × Nat} (hs : St gs c.1) (h1 : 1 ≤ c.2) (h2 : c.2 < left) (hc : nGet row (c.1, (c.2 : Int)) = none) : CI gs row st n (s' ++ [(key, left)] ++ [c]) := by
  have hd := List.pairwise_append.mp h.dec
  refine ⟨fun d hd => ?_, ?_, fun i d e => ?_, .inr fun d hd => ?_, h.fin.imp_right fun z => List.mem_append_left _ z⟩
  · rcases List.mem_append.mp hd with z | z
    · exact h.ok d z
    · rw [List.mem_singleton.mp z]; exact ⟨hs, h1⟩
  · refine List.pairwise_append.mpr ⟨h.dec, List.pairwise_singleton _ _, fun a ha b hb => ?_⟩
    rw [List.mem_singleton.mp hb]
    rcases List.mem_append.mp ha with z | z
    · have := hd.2.2 a z (key, left) List.mem_cons_self
      dsimp only at this
      omega
    · rw [List.mem_singleton.mp z]; exact h2
  · rcases Nat.lt_or_ge i (s' ++ [(key, left)]).length with z | z
    · rw [List.getElem?_append_left z] at e
      exact h.ix i d e
    · rw [List.getElem?_append_right z] at e
      have hi : i - (s' ++ [(key, left)]).length = 0 := by
        rcases Nat.eq_zero_or_pos (i - (s' ++ [(key, left)]).length) with q | q
        · exact q
        · rw [List.getElem?_eq_none (by rw [List.length_singleton]; omega)] at e; cases e
      rw [hi] at e
      cases e
      have q := h.ix s'.length (key, left) (by rw [List.getElem?_append_right (Nat.le_refl _), Nat.sub_self]; rfl)
      rw [List.length_append, List.length_singleton] at z hi
      dsimp only at q
      omega
  · rcases List.mem_append.mp hd with z | z
    · rcases h.un with y | y
      · rw [List.length_append, List.length_singleton] at y
        rw [List.eq_nil_of_length_eq_zero (l := s') (by omega), List.nil_append] at z
        rw [List.mem_singleton.mp z]; exact hk
      · exact y d z
    · rw [List.mem_singleton.mp z]; exact hc
theorem MuC_put (hl : row.length < 90000) (e : NK × Bool) : MuC (row ++ [e]) s' < MuC row (s' ++ [(key, left)]) := by
  have h1 : MuC row (s' ++ [(key, left)]) = (90000 - row.length) * 100 + (50 - (s'.length + 1)) + 1 := by
    unfold MuC
    rw [if_neg (by simp), List.length_append, List.length_singleton]
  have h2 : MuC (row ++ [e]) s' ≤ (90000 - (row.length + 1)) * 100 + 50 + 1 := by
    unfold MuC
    rw [List.length_append, List.length_singleton]
    split <;> omega
  rw [h1]
  omega
theorem MuC_push (h : (s' ++ [(key, left)]).length ≤ 40) (c : List Int × Nat) : MuC row (s' ++ [(key, left)] ++ [c]) < MuC row (s' ++ [(key, left)]) := by
  unfold MuC
  rw [if_neg (by simp), if_neg (by simp), List.length_append, List.length_singleton]
  omega
theorem MuC_nil : MuC row [] < MuC row (s' ++ [(key, left)]) := by
  unfold MuC
  rw [if_pos rfl, if_neg (by simp), List.length_append, List.length_singleton]
  omega
end
end M

set_option Elab.async false
set_option linter.all false
set_option maxRecDepth 100000
set_option maxHeartbeats 4000000
namespace R
open PySem L2 DL M
section
variable {P : Program} {w : World} {K : PySem.W.Frag} {mg : Str → Option Value} {base : Heap}
abbrev dLn (c : List Int × Nat) : D := nD (c.1, (c.2 : Int))
def sp_can (P : Program) (w : World) : Sp := fun vs H Q _ => ∃ (gs st : List Int) (n : Nat) (a : Addr) (row : NRow) (gv bv : V), vs = [gv, .ref a, bv, .int (n : Int)] ∧ Gl gs ∧ 1 ≤ n ∧ n ≤ 40 ∧ St gs st ∧ NI (nexts gs) gs row ∧
  (gN P w 1 a row).P (reg [a] hn H) (only [a] H) ∧ Rep (reg [a] hn H) gv (dI gs) ∧ Rep (reg [a] hn H) bv (dT st) ∧
  ∀ H' row', (∀ q o, q ≠ a → H q = some o → H' q = some o) → (gN P w 1 a row').P (reg [a] hn H') (only [a] H') → NI (nexts gs) gs row' → Q (.bl (canB (nexts gs) n st)) H'
abbrev GC (gs : List Int) (a : Addr) (st : List Int) (n : Nat) (ln : List (List Int × Nat)) (b c d e f g h i : SV) : List SV := [.dat 1 (dI gs), .raw (.ref a), .dat 1 (dT st), .dat 1 (.int (n : Int)), .own 1 (ln.map dLn), b, c, d, e, f, g, h, i]
theorem cq_dLn (c : List Int × Nat) {n : Nat} : Cq (n + 2) (dLn c) := cq_tup fun y hy => by
  rcases List.mem_cons.mp hy with z | hy
  · rw [z]; exact cq_dT _
  · rw [List.mem_singleton.mp hy]; exact cq_int _
theorem cq_lns (s : List (List Int × Nat)) : Cq 3 (.lst (s.map dLn)) := cq_lst fun y hy => by
  obtain ⟨i, _, rfl⟩ := List.mem_map.mp hy
  exact cq_dLn i (n := 0)
theorem filt_far {gs st : List Int} {n : Nat} : ((nexts gs st).filter fun x => decide (x.2.1 ≤ (n : Int))) = nxW (nexts gs) n st := by
  unfold nxW
  refine List.filter_congr fun x hx => decide_eq_decide.mpr ?_
  have := npos _ _ hx
  omega
theorem ok_can_fall (T : Txt K mg) : FnOk P w K mg base CX0 3 T.d_can_fall.f T.d_can_fall.fd ["glasses", "known", "begin", "ticks"] (sp_can P w) := by
  refine Fun.okC T.d_can_fall.F sc_can_fall (fun vs H Q E h => by obtain ⟨gs, st, n, a, row, gv, bv, rfl, _⟩ := h; rfl) fun cdv A outer s0 H vs Q E hcd hr h => ?_
  obtain ⟨gs, st, n, a, row, gv, bv, rfl, hG, hn1, hn4, hst, ni, tab, rgv, rbv, q⟩ := h
  have nd := sc_can_fall.nd
  have hu := hr.units
  have hl3 := hG.hi
  have h := holds_startO (N := n_can_fall) (vs := [gv, .ref a, bv, .int (n : Int)]) (ex := [a]) (gs := [gN P w 1 a row]) (H := H) (.dat rgv (.raw (.dat rbv (.dat (.int _) .nil)))) (show 4 ≤ 13 by decide) (fun b hb => by
    rw [List.mem_singleton.mp hb]
    obtain ⟨ks, _, k2, _⟩ := tab
    rw [(only_some k2).2]; simp) (fun g hg => by
    rw [List.mem_singleton.mp hg]
    exact ⟨fun a ha => ha, Nat.le_refl 1, tab⟩) (List.pairwise_singleton _ _)
  have h : Holds { h0 := offs [a] H, ex := [a], gs := [gN P w 1 a row] } (L2.start n_can_fall [gv, .ref a, bv, .int (n : Int)]) H [.dat 1 (dI gs), .raw (.ref a), .dat 1 (dT st), .dat 1 (.int (n : Int)), .any, .any, .any, .any, .any, .any, .any, .any, .any] := h
  refine w_ownN (m := 1) (ds := [dLn (st, n)]) 4 (n_lst (a_w (a_cons (d_tup (a_cons (d_x 2 rfl) (a_cons (d_x 3 rfl) a_nil)) two_sz) a_nil) (by decide)) one_sz) h (fun σ1 H1 e1 h1 => ?_) nd
  have h1 : Holds { h0 := offs [a] H, ex := [a], gs := [gN P w 1 a row] } σ1 H1 (GC gs a st n [(st, n)] .any .any .any .any .any .any .any .any) := h1
  refine w_whileZ (Z := { h0 := offs [a] H, ex := [a], gs := [] }) (S := List (List Int × Nat) × NRow) (fun s => [gN P w 1 a s.2]) (fun s => GC gs a st n s.1 .any .any .any .any .any .any .any .any) (fun s => MuC s.2 s.1)
    (fun s => NI (nexts gs) gs s.2 ∧ CI gs s.2 st n s.1) ([(st, n)], row) PassesOwn.never h1 ⟨ni, CI.start hst hn1 hn4⟩ (fun s σ2 H2 is h2 => ?_)
  obtain ⟨ln, row⟩ := s
  clear ni tab h h1
  obtain ⟨ni, ci⟩ := is
  dsimp only at ni ci h2
  have hlen := ni.len hG
  have hlnl := ci.len
  refine ⟨!decide (ln.map dLn = []), t_eq (t_dne hu (d_x 4 rfl) (d_lst a_nil (by decide)) (cq_lns ln).eqOk (by decide)) (by rw [deq_nil]), fun hb' H3 h3 => ?_, fun hb' H3 h3 => ?_⟩
  · have hne : ln ≠ [] := fun z => by rw [z] at hb'; cases hb'
    have h3 : Holds { h0 := offs [a] H, ex := [a], gs := [gN P w 1 a row] } σ2 H3 (GC gs a st n ln .any .any .any .any .any .any .any .any) := h3
    obtain ⟨s', t, rfl⟩ : ∃ s' t, ln = s' ++ [t] := ⟨ln.dropLast, ln.getLast hne, (List.dropLast_concat_getLast hne).symm⟩
    obtain ⟨key, left⟩ := t
    obtain ⟨hkey, hleft⟩ := ci.ok (key, left) (List.mem_append_right _ List.mem_cons_self)
    dsimp only at hkey hleft
    have hle40 : left ≤ 40 := by
      have := ci.ix s'.length (key, left) (by rw [List.getElem?_append_right (Nat.le_refl _), Nat.sub_self]; rfl)
      dsimp only at this
      omega
    have hgt : gN P w 1 a row ∈ [gN P w 1 a row] := List.mem_cons_self
    have dl : ((s' ++ [(key, left)]).map dLn).dropLast = s'.map dLn := by rw [List.map_append]; exact List.dropLast_concat
    have nel : (s' ++ [(key, left)]).map dLn ≠ [] := by simp
    refine w_unpack (.tp [.nm 5, .nm 6]) (p_tp (q_cons (p_nm 5 nd) (q_cons (p_nm 6 nd) q_nil))) (d_ixLL (d := dLn (key, left)) (l_x 4 rfl) (d_neg d_i) (by
      rw [List.length_map, List.length_append, List.length_singleton, ix_last (by omega), Option.bind_some, List.getElem?_map, Nat.add_sub_cancel, List.getElem?_append_right (Nat.le_refl _), Nat.sub_self]; rfl)) rfl h3 (fun σ4 H4 e4 h4 => ?_)
    dsimp only [List.set] at h4
    have h4 : Holds { h0 := offs [a] H, ex := [a], gs := [gN P w 1 a row] } σ4 H4 (GC gs a st n (s' ++ [(key, left)]) (.dat 1 (dT key)) (.dat 1 (.int (left : Int))) .any .any .any .any .any .any) := h4
    refine w_lc (α := Nx) (me := 2) (enc := dN) (ys := nexts gs key) (tst := fun x => decide (x.2.1 ≤ (left : Int))) (f := fun x => dLn (x.2.2, left - x.2.1.toNat)) 7 [("deed", 9), ("far", 10), ("there", 11)] (.tp [.nm 9, .nm 10, .nm 11]) (i_list (d_fn T.d_nexts (ok_nexts T) hr pass0 (Pur.gives (gs, key) ⟨hkey.len, by dsimp only; omega⟩) (a_cons (d_x 0 rfl) (a_cons (d_listTS T.z_list (d_x 5 rfl) (scL_ints _)) a_nil))))
        (fun s H' C cl fp => p_tp (q_cons (p_nm 9 nd) (q_cons (p_nm 10 nd) (q_cons (p_nm 11 nd) q_nil)))) (fun i x Z' hx hz => ⟨_, rfl, fun s H' C cl fp => pts_oneD (t_le (d_x 10 rfl) (d_x 6 rfl)), fun ht s H' C cl fp => ?tup⟩) h4 (fun σ6 H6 e6 h6 => ?_) (by have := nexts_len gs key; have : 2 ^ gs.length ≤ 2 ^ 3 := Nat.pow_le_pow_right (by decide) hl3; omega) nd (bk_can_fall (by decide +kernel)) rfl
    case tup =>
      have h1 := npos _ _ (List.mem_of_getElem? hx)
      have h2 := of_decide_eq_true ht
      exact d_w (d_tup (a_cons (d_tupleS T.z_tuple (d_x 11 rfl) (scL_ints _)) (a_cons (d_z (d_sub (d_x 6 rfl) (d_x 10 rfl)) (by omega)) a_nil)) two_sz) (by decide)
    have esm : ((nexts gs key).filter fun x => decide (x.2.1 ≤ (left : Int))).map (fun x => dLn (x.2.2, left - x.2.1.toNat)) = (sons (nexts gs) left key).map dLn := by
      rw [filt_far, sons, List.map_map]; rfl
    dsimp only [List.set] at h6
    rw [esm] at h6
    have hsl : (sons (nexts gs) left key).length ≤ 8 := by
      have h1 := nexts_len gs key
      have h2 : 2 ^ gs.length ≤ 2 ^ 3 := Nat.pow_le_pow_right (by decide) hl3
      have h3 : (nxW (nexts gs) left key).length ≤ (nexts gs key).length := List.length_filter_le _ _
      unfold sons
      rw [List.length_map]
      omega
    have hsm : ∀ c ∈ sons (nexts gs) left key, St gs c.1 ∧ c.2 < left := fun c hc => by
      obtain ⟨x, k1, k2, rfl⟩ := sons_mem hc
      have h1 := npos _ _ k1
      have h2 := nexts_spec hG.all hkey k1
      exact ⟨h2.2.2.2.2.2, by dsimp only; omega⟩
    have hyes := can_yes (nx := nexts gs) npos ni (r := left) (by omega) (st := key)
    have hno := can_no (nx := nexts gs) npos ni (r := left) (by omega) (st := key)
    generalize sons (nexts gs) left key = sm at h6 hsl hsm hyes hno
    have h6 : Holds { h0 := offs [a] H, ex := [a], gs := [gN P w 1 a row] } σ6 H6 (GC gs a st n (s' ++ [(key, left)]) (.dat 1 (dT key)) (.dat 1 (.int (left : Int))) (.dat 2 (.lst (sm.map dLn))) .any .any .any .any .any) := h6
    refine w_lc (α := List Int × Nat) (me := 2) (enc := dLn) (ys := sm) (tst := newK row) (f := dLn) 8 [("one", 12)] (.nm 12) (i_list (d_x 7 rfl)) (fun s H' C cl fp => p_nm 12 nd) (fun i x Z' hx hz => ⟨_, rfl, fun s H' C cl fp => pts_oneD ?tst, fun _ s H' C cl fp => d_w (d_x 12 rfl) (by decide)⟩) h6 (fun σ8 H8 e8 h8 => ?_) (by omega) nd (bk_can_fall (by decide +kernel)) rfl
    case tst => exact t_bool (w_and (t_gt (d_ixT (d_x 12 rfl) d_i rfl) d_i) fun _ => w_and1 (t_notInN hu (by rw [hz.2]; exact hgt) (d_x 12 rfl) (r_x 1 rfl)))
    dsimp only [List.set] at h8
    have h8 : Holds { h0 := offs [a] H, ex := [a], gs := [gN P w 1 a row] } σ8 H8 (GC gs a st n (s' ++ [(key, left)]) (.dat 1 (dT key)) (.dat 1 (.int (left : Int))) (.dat 2 (.lst (sm.map dLn))) (.dat 2 (.lst ((sm.filter (newK row)).map dLn))) .any .any .any .any) := h8
    have hfl : (sm.filter (newK row)).length ≤ 8 := Nat.le_trans (List.length_filter_le _ _) hsl
    refine w_if (t_inN (k := (key, (left : Int))) hu hgt (d_tup (a_cons (d_x 5 rfl) (a_cons (d_x 6 rfl) a_nil)) two_sz) (r_x 1 rfl)) h8 (fun hb5 H9 e9 h9 => ?_) fun hb5 H9 e9 h9 => ?_
    · have es := ci.known hb5
      refine w_pop0 4 rfl nel h9 fun H10 h10 => w_end ?_
      refine wp_nil ⟨([], row), ⟨ni, ci.drop hb5⟩, MuC_nil, ?_⟩
      rw [dl, es] at h10
      exact h10.drops [5, 6, 7, 8]
    · have hnone : nGet row (key, (left : Int)) = none := by
        cases z : nGet row (key, (left : Int)) with
        | none => rfl
        | some d => rw [z] at hb5; cases hb5
      refine w_if (t_val (d_anyc (α := List Int × Nat) (enc := dLn) (ys := sm) (p := yesK row) (me := 3) T.z_any [("one", 12)] (.nm 12) (i_list (d_x 7 rfl)) (fun s H' C cl fp => p_nm 12 nd) (fun i x Z' hx hz => ⟨_, rfl, fun s H' C cl fp => pts_nilD, fun _ s H' C cl fp => ?el⟩) (by omega) nd (bk_can_fall (by decide +kernel)))) h9 (fun hb7 H10 e10 h10 => ?_) fun hb7 H10 e10 h10 => ?_
      case el => exact d_or (d_eqi (d_ixT (d_x 12 rfl) d_i rfl) d_i) fun _ => d_or1 (d_getN2 (mr := 3) hu (by rw [hz.2]; exact hgt) (r_x 1 rfl) (d_x 12 rfl) d_b ⟨rfl, rfl, rfl, rfl⟩)
      · refine w_putN (k := (key, (left : Int))) (b := true) hu 0 rfl d_b (r_x 1 rfl) (d_w (m := 1) (d_tup (a_cons (d_x 5 rfl) (a_cons (d_x 6 rfl) a_nil)) two_sz) (by decide)) hnone (by omega) h10 fun H11 h11 => ?_
        refine w_pop0 4 rfl nel h11 fun H12 h12 => w_end ?_
        refine wp_nil (wp_nil ⟨(s', row ++ [((key, (left : Int)), true)]), ⟨ni.put hnone (by dsimp only; omega) (by dsimp only; omega) hkey (hyes hb7).symm, ci.put hnone true⟩, MuC_put (by omega) _, ?_⟩)
        rw [dl] at h12
        exact h12.drops [5, 6, 7, 8]
      · refine w_if (b := !decide ((sm.filter (newK row)).map dLn = [])) (t_eq (t_dne hu (d_x 8 rfl) (d_lst a_nil (by decide)) (cq_lns _).eqOk (by decide)) (by rw [deq_nil])) h10 (fun hb9 H11 e11 h11 => ?_) fun hb9 H11 e11 h11 => ?_
        · obtain ⟨c, cs, hc⟩ : ∃ c cs, sm.filter (newK row) = c :: cs := by
            cases z : sm.filter (newK row) with
            | nil => rw [z] at hb9; cases hb9
            | cons c cs => exact ⟨c, cs, rfl⟩
          have hm : c ∈ sm.filter (newK row) := by rw [hc]; exact List.mem_cons_self
          obtain ⟨hm1, hm2⟩ := List.mem_filter.mp hm
          obtain ⟨k1, k2⟩ := Bool.and_eq_true_iff.mp hm2
          have k3 := of_decide_eq_true k1
          obtain ⟨w1, w2⟩ := hsm c hm1
          have hcn : nGet row (c.1, (c.2 : Int)) = none := by
            cases z : nGet row (c.1, (c.2 : Int)) with
            | none => rfl
            | some d => rw [z] at k2; cases k2
          refine w_app 4 rfl (d_ixL (d := dLn c) (d_x 8 rfl) d_i (by rw [hc, show (0 : Int) = ((0 : Nat) : Int) from rfl, ix_nat (by simp), Option.bind_some]; rfl)) h11 (fun H12 h12 => w_end ?_) (by rw [List.length_map]; omega)
          refine wp_nil (wp_nil (wp_nil ⟨(s' ++ [(key, left)] ++ [c], row), ⟨ni, ci.push hnone w1 (by omega) w2 hcn⟩, MuC_push hlnl c, ?_⟩))
          have := h12.drops [5, 6, 7, 8]
          rw [← List.map_singleton (f := dLn), ← List.map_append] at this
          exact this
        · have hnil : sm.filter (newK row) = [] := by
            cases z : sm.filter (newK row) with
            | nil => rfl
            | cons c cs => rw [z] at hb9; cases hb9
          refine w_putN (k := (key, (left : Int))) (b := false) hu 0 rfl d_b (r_x 1 rfl) (d_w (m := 1) (d_tup (a_cons (d_x 5 rfl) (a_cons (d_x 6 rfl) a_nil)) two_sz) (by decide)) hnone (by omega) h11 fun H12 h12 => ?_
          refine w_pop0 4 rfl nel h12 fun H13 h13 => w_end ?_
          refine wp_nil (wp_nil (wp_nil ⟨(s', row ++ [((key, (left : Int)), false)]), ⟨ni.put hnone (by dsimp only; omega) (by dsimp only; omega) hkey (hno hb7 hnil).symm, ci.put hnone false⟩, MuC_put (by omega) _, ?_⟩))
          rw [dl] at h13
          exact h13.drops [5, 6, 7, 8]
  · have hln : ln = [] := by
      cases ln with
      | nil => rfl
      | cons a b => cases hb'
    subst hln
    have hz : (nGet row (st, (n : Int))).isSome = true := ci.fin.resolve_right fun z => by cases z
    obtain ⟨b, hb⟩ := Option.isSome_iff_exists.mp hz
    have eb := ni.get hb
    have h3 : Holds { h0 := offs [a] H, ex := [a], gs := [gN P w 1 a row] } σ2 H3 (GC gs a st n [] .any .any .any .any .any .any .any .any) := h3
    refine w_ret (d_getN (mr := 3) (k := (st, (n : Int))) (row := row) (a := a) hu List.mem_cons_self (r_x 1 rfl) (d_tup (a_cons (d_x 2 rfl) (a_cons (d_x 3 rfl) a_nil)) two_sz) hb) h3 fun v H4 e4 r4 => ?_
    cases r4
    have h4 := h3.grow e4
    rw [show b = canB (nexts gs) n st from eb]
    refine q H4 row (fun p o hp ho' => e4 _ _ (h3.h0x p o (by show offs [a] H p = some o; rw [offs_out (fun z => hp (List.mem_singleton.mp z))]; exact ho'))) ?_ ni
    exact (gN P w 1 a row).mono (reg_ex (fun a ha => .inl (List.mem_append_left _ ha)) (Ex.refl _) (Ex.refl _)) (h4.gok _ List.mem_cons_self).2.2
end
end R

set_option Elab.async false
set_option linter.all false
set_option maxRecDepth 100000
set_option maxHeartbeats 4000000
/-! DL52: any([elt for x in a hidden dict]), elt with effects on what stands at told addresses. -/
namespace DL
open PySem L2
section
variable {X : Cx} {iter elt : Expr} {pos pos' : Pos} {Z : Fr} {Γ : List SV} {mt j k : Nat} {rows : List Row} {row : Row} {tl : Addr} {td : List Addr} {scope : Scope} {te tel : TE}
/-- the walk: J is kept, all but chg stays -/
def tKJ (Z : Fr) (Γ : List SV) (J : Hp → Prop) (chg : List Addr) (d : Addr) (row : Row) (f : List Int → Bool) (j : Nat) (tel : TE) (bd : V → Hp → VK → Prop) : TE := fun σ H Q => Holds Z σ H Γ ∧ J H ∧
  (∀ (p : List Int × D) (q : Addr) (H2 : Hp) (R : VK), p ∈ row → H2 q = some (.tup (p.1.map V.int)) → J H2 → (∀ x o, x ∉ chg → x ≠ d → H x = some o → H2 x = some o) →
    (∀ H3, J H3 → (∀ x o, x ∉ chg → H2 x = some o → H3 x = some o) → R (.bl (f p.1)) H3) → tel (σ.set j (some (.ref q))) H2 R) ∧
  ∀ D H', J H' → (∀ x o, x ∉ chg → H x = some o → H' x = some o) → H' D = some (.lst ((row.map fun p => f p.1).map V.bl)) → bd (.ref D) H' Q
theorem d_lcKJ {x : Str} {xp : Pos} {J : Hp → Prop} {chg : List Addr} {f : List Int → Bool} (j k : Nat) (hi : PE X iter te) (hte : ∀ σ H Hl Q, Holds Z σ H Γ → (∀ a, a ≠ td.getD k 0 → Hl a = H a) → Q (.ref (td.getD k 0)) Hl → te σ Hl Q) (hgt : gTb mt tl td rows ∈ Z.gs) (hr : rows[k]? = some row) (hlen : row.length ≤ 1000000)
    (hJ : ∀ H H', J H → (∀ q us, H q = some (.tup us) → H' q = some (.tup us)) → (∀ c ∈ chg, H' c = H c) → J H') (hchg : ∀ H, J H → ∀ c ∈ chg, H c ≠ none) (hd : td.getD k 0 ∉ chg)
    (hg : ∀ (s : Shared) (H' : Hp) (C : Addr) (cl : List (Str × Addr)) (fp : List Addr), PG (blkX X scope s H' C cl fp) (.Name x xp) (gP X.K (.nm j))) (he : ∀ (s : Shared) (H' : Hp) (C : Addr) (cl : List (Str × Addr)) (fp : List Addr), PE (blkX X scope s H' C cl fp) elt tel) (own : List (Str × Nat))
    (hN : X.N.Nodup) (ok : BlkOk X.N X.env.scope scope own) (how : own.map (·.2) = [j] := by rfl) (hc : X.calm = true := by rfl) (hj : j < Γ.length := by first | decide | exact Nat.le_of_ble_eq_true rfl) (hs : ∀ x, foldedSetIterable iter X.env x = pure x := by intro _; rfl) :
    PE X (.ListComp elt [⟨.Name x xp, iter, [], 0⟩] scope pos) (tKJ Z Γ J chg (td.getD k 0) row f j tel fun v H Q => Q v H) := by
  refine pe_imp (pe_lock (pe_lc (tt := tYes) hc hN (pi_keys hi) ok hg (fun s H C cl fp => pts_nil) he hs)) fun σ H Q h => ?_
  rw [how]
  obtain ⟨h0, j0, hel, h⟩ := h
  obtain ⟨kvs, k1, k2, _⟩ := dic_at h0 hgt hr
  have hle : kvs.length = row.length := by
    have := congrArg List.length k2
    rw [List.length_map, List.length_map] at this; exact this
  generalize hdd : td.getD k 0 = d at k1 hte hd hel
  refine ⟨d, .dT kvs, k1, trivial, fun od => ?_⟩
  generalize hL : upd H d (.frz od (.dT kvs)) = HL
  have hLd : HL d = some (.frz od (.dT kvs)) := by rw [← hL]; exact upd_same
  have hLn : ∀ a, a ≠ d → HL a = H a := fun a z => by rw [← hL]; exact upd_ne z
  have hn : ∀ a, HL a = none → H a = none := fun a z => by
    by_cases q : a = d
    · rw [q, hLd] at z; cases z
    · rw [hLn a q] at z; exact z
  have jL : J HL := hJ H HL j0 (fun q us z => by
    rw [hLn q (fun e => by rw [e, k1] at z; cases z)]; exact z) fun c hc => hLn c fun e => hd (by rw [← e]; exact hc)
  refine hte σ H HL _ h0 hLn ⟨d, od, rfl, .inr ⟨kvs, hLd, fun D hD => ?_⟩⟩
  have hDc : D ∉ chg := fun z => hchg HL jL D z hD
  have hjσ : j < σ.length := by rw [h0.len]; exact hj
  refine ⟨fun i n Hi => n = kvs.length - i ∧ i ≤ kvs.length ∧ J Hi ∧ (∀ x o, x ∉ chg → HL x = some o → Hi x = some o) ∧ Hi D = some (.lst (((row.take i).map fun p => f p.1).map V.bl)),
    ⟨kvs.length, by simp, Nat.zero_le _, hJ HL _ jL (fun q us z => Ex.new hD _ _ z) (fun c hc => upd_ne fun e => hDc (by rw [← e]; exact hc)), fun x o _ z => Ex.new hD _ _ z, upd_same⟩, ?_⟩
  rintro i n Hi ⟨rfl, hi', ji, ex, hacc⟩
  have hid := ex _ _ hd hLd
  by_cases hlt : i < kvs.length
  · refine .inr ⟨⟨hid, hlt⟩, fun Hj => i + 1 ≤ kvs.length ∧ J Hj ∧ (∀ x o, x ∉ chg → HL x = some o → Hj x = some o) ∧ Hj D = some (.lst (((row.take (i + 1)).map fun p => f p.1).map V.bl)), fun Hj q => ⟨kvs.length - (i + 1), by omega, rfl, q⟩, fun y H2 q => ?_⟩
    obtain ⟨rfl, ks, v, q, hkv, rfl, hq⟩ := q
    refine ⟨wipe_one.trans wipe_wipe, ?_⟩
    unfold tYes
    dsimp only
    rw [if_pos rfl]
    have hp : row[i]? = some (row[i]'(by rw [← hle]; exact hlt)) := List.getElem?_eq_getElem _
    generalize row[i]'(by rw [← hle]; exact hlt) = p at hp
    have hk : ks = kI p.1 := by
      have := congrArg (fun l => l[i]?) k2
      simp only [List.getElem?_map, hkv, hp, Option.map_some] at this
      exact Option.some.inj this
    rw [hk, kI_kV] at hq
    have eσ : (wipe σ [j]).set j (some (V.ref q)) = σ.set j (some (V.ref q)) := by
      unfold wipe wipe
      rw [List.set_set]
    rw [eσ]
    refine hel p q H2 _ (List.mem_of_getElem? hp) hq ji (fun x o hx hxd hz => ex x o hx (by rw [hLn x hxd]; exact hz)) fun H3 j3 keep3 => ?_
    have h3 := keep3 D _ hDc hacc
    refine ⟨_, h3, ?_, hlt, ?_, fun x o hx hz => ?_, ?_⟩
    · rw [List.length_map, List.length_map, List.length_take]
      have h4 : 1000000 < sizeLine := by decide
      omega
    · exact hJ H3 _ j3 (fun q us z => by rw [upd_ne fun e => by rw [e, h3] at z; cases z]; exact z) fun c hc => upd_ne fun e => hDc (by rw [← e]; exact hc)
    · rw [upd_ne fun e => by rw [e, hD] at hz; cases hz]
      exact keep3 x o hx (ex x o hx hz)
    · rw [upd_same, take_succ_get hp, List.map_append, List.map_append]; rfl
  · have e : i = kvs.length := by omega
    subst e
    refine .inl ⟨⟨hid, Nat.le_refl _⟩, hid, ?_⟩
    have hDd : D ≠ d := fun z => by rw [z, hLd] at hD; cases hD
    refine h D _ (hJ Hi _ ji (fun q us z => by rw [upd_ne fun e => by rw [e, hid] at z; cases z]; exact z) fun c hc => upd_ne fun e => hd (by rw [← e]; exact hc)) (fun x o hx hz => ?_) ?_
    · by_cases q : x = d
      · rw [q, upd_same, ← k1, ← q]; exact hz.symm ▸ rfl
      · rw [upd_ne q]
        exact ex x o hx (by rw [hLn x q]; exact hz)
    · rw [upd_ne hDd, hacc, hle, List.take_length]
theorem e_anyKJ {e : Expr} {J : Hp → Prop} {chg : List Addr} {f : List Int → Bool} {d : Addr} (hm : X.mg "any" = none) (ha : PE X e (tKJ Z Γ J chg d row f j tel fun v H Q => Q v H)) (hc : X.calm = true := by rfl) (hg : Gl X "any" := by rfl) (he : starEach [e] X.env = (false, eval e X.env) :: starEach [] X.env := by rfl) {p : Pos} (hpl : (backTo pos (starEach [] X.env)).any (·.1) = false := by rfl) :
    PE X (.Call (.Name "any" p) [e] [] pos) (tKJ Z Γ J chg d row f j tel fun _ H Q => Q (.bl (row.any fun p => f p.1)) H) :=
  pe_imp (pe_callB (cr_any hc) hg hm (by decide +kernel) (pa_cons ha pa_nil he) (by decide) (by decide) he hpl) fun σ H Q ⟨h0, j0, hel, h⟩ => ⟨h0, j0, hel, fun D H' j' keep hD => ⟨_, row.map fun p => f p.1, rfl, .of hD, by
    have := h D H' j' keep hD
    rw [List.any_map]
    exact this⟩⟩
end
end DL

set_option Elab.async false
set_option linter.all false
set_option maxRecDepth 100000
set_option maxHeartbeats 4000000
namespace R
open PySem L2 DL M
section
variable {P : Program} {w : World} {K : PySem.W.Frag} {mg : Str → Option Value} {base : Heap}
theorem within_intS {d : D} {lo hi : Int} (h : isWithin lo hi d = true) : ∃ i, d = .int i ∧ lo ≤ i ∧ i ≤ hi := by
  cases d <;> first | (cases h; done) | skip
  rename_i i
  obtain ⟨h1, h2⟩ := Bool.and_eq_true_iff.mp h
  exact ⟨i, rfl, of_decide_eq_true h1, of_decide_eq_true h2⟩
theorem gl_ofS {gs : List Int} (h : isGlasses 3 (dI gs) = true) : Gl gs := by
  obtain ⟨h1, h2⟩ := Bool.and_eq_true_iff.mp h
  obtain ⟨h3, h4⟩ := Bool.and_eq_true_iff.mp h1
  have h3 := of_decide_eq_true h3
  have h4 := of_decide_eq_true h4
  rw [List.length_map] at h3 h4
  refine ⟨by omega, by omega, fun g hg => ?_⟩
  have := List.all_eq_true.mp h2 (.int g) (List.mem_map.mpr ⟨g, hg, rfl⟩)
  obtain ⟨i, e, k1, k2⟩ := within_intS this
  cases e
  exact ⟨k1, k2⟩
theorem w_glassesX {X : Cx} (T : Txt X.K X.mg) {j m1 m2 : Nat} {g : D} {e1 e2 : Expr} {pos p pos2 : Pos} {rest : List Stmt} {E : Ends} {σ : L2.St} {H : Hp} {Z : Fr} {Γ : List SV} {W : XK} (hr : Room j X.A) (hx : Passes (L2.CX X.prog X.w) X W) (hg : knd1 g = true) (h1 : PE X e1 (tD Z Γ m1 g)) (h2 : PE X e2 (tD Z Γ m2 (.int 3))) (h : Holds Z σ H Γ)
    (k : ∀ gs, g = dI gs → Gl gs → isGlasses 3 g = true → ∀ H', Ex H H' → Holds Z σ H' Γ → wp X rest E σ H') (kx : isGlasses 3 g = false → ∀ H', Ex H H' → W (.ref T.e_BadGlasses.C) none H') (hk : 3 ≤ j := by decide) (hgl : L2.Gl X "check_glasses" := by rfl)
    (q1 : starEach [e1, e2] X.env = (false, eval e1 X.env) :: starEach [e2] X.env := by rfl) (q2 : starEach [e2] X.env = (false, eval e2 X.env) :: starEach [] X.env := by rfl) (hpl : (backTo pos (starEach [e2] X.env)).any (·.1) = false := by rfl)
    (hs : swapsWith (.Call (.Name "check_glasses" p) [e1, e2] [] pos) none pos2.line X.env = pure false := by rfl) : wp X (.Expr (.Call (.Name "check_glasses" p) [e1, e2] [] pos) pos2 :: rest) E σ H := by
  refine w_exprX (x_fn T.d_check_glasses (ok_check_glasses T) hr hx (PurX.both (g, 3) hg) (a_cons h1 (a_cons h2 a_nil q2) q1) hk hgl (by decide) q1 hpl) h (fun d hd H1 ex1 g1 => ?_) (fun C hC H1 ex1 => ?_) hs
  · have hg' : isGlasses 3 g = true := by
      cases z : isGlasses 3 g with
      | true => rfl
      | false => dsimp only at hd; rw [z] at hd; cases hd
    obtain ⟨gs, rfl⟩ := glasses_ints hg'
    exact k gs rfl (gl_ofS hg') hg' H1 ex1 g1
  · have hg' : isGlasses 3 g = false := by
      cases z : isGlasses 3 g with
      | false => rfl
      | true => dsimp only at hC; rw [z] at hC; cases hC
    dsimp only at hC
    rw [hg'] at hC
    cases hC
    exact kx hg' H1 ex1
def measL (gs : List Int) : List Int := ((List.range 40).filter fun i => !(rw_ (reachT gs 40 40) (i + 1)).isEmpty).map fun i : Nat => ((i : Int) + 1)
abbrev sp_measured (Cg : Addr) : Sp := PurX (fun g : D => [g]) (fun g => knd1 g = true) fun g => if isGlasses 3 g then .inr (dI (measL (isD g))) else .inl Cg
theorem rng_one : rng 1 ((40 + 1 : Int) - 1).toNat = (List.range 40).map fun i : Nat => D.int ((i : Int) + 1) := by
  show rng 1 40 = _
  unfold rng
  exact List.map_congr_left fun i _ => by rw [Int.add_comm]
theorem ok_measured (T : Txt K mg) : FnOk P w K mg base (L2.CX P w) 5 T.d_measured.f T.d_measured.fd ["glasses"] (sp_measured T.e_BadGlasses.C) := by
  refine Fun.purX T.d_measured.F sc_measured (fun _ => rfl) (by decide) fun cdv A outer s H σ E Q g hr hg h q => ?_
  have nd := sc_measured.nd
  have h : Holds { h0 := H } σ H [.dat 1 g, .any, .any] := h
  refine w_glassesX T hr (own_pass (takes_of rfl rfl rfl rfl)) hg (d_x 0 rfl) (d_gc T.c_MOST_GLASSES) h (fun gs eg hG hg' H1 e1 h1 => ?_) fun hg' H1 e1 => ?_
  rotate_left
  · rw [hg', if_neg Bool.false_ne_true] at q
    exact q H1 e1
  rw [hg', if_pos rfl] at q
  subst eg
  rw [isD_dI] at q
  have hgl := hG.hi
  refine w_setTb (mt := 1) 1 (d_fnTb T.d_reached (ok_reached T) hr (gs, 40) ⟨hG, show 40 ≤ 1000 by decide⟩ (NoTu.nil rfl) okM.one (a_cons (d_x 0 rfl) (a_cons (d_eq (d_lst (a_cons (d_repS (xs := [.int 0]) (d_lst (a_cons d_i a_nil) one_sz) (d_len T.z_len (d_x 0 rfl)) rfl (by omega) (by rw [List.length_map]; omega) (by simp; exact sz_of (by omega))) a_nil) one_sz) ?hz) (a_cons (d_gc T.c_MOST_TICKS) a_nil)))) h1 (Nat.le_refl 1) (fun l ds σ3 H3 e3 h3 => ?_) nd
  case hz =>
    show D.lst [_] = D.lst [dI (zeros gs)]
    rw [rep_one]; unfold zeros dI; rw [List.map_replicate, List.length_map]; simp
  dsimp only [List.set, List.map, List.cons_append, List.nil_append, List.length, List.replicate] at h3
  rw [List.append_nil] at h3
  have ei : Ex H H3 := e1.trans e3
  have I0 : Inv (nexts gs) (zeros gs) 40 (reachT gs 40 40) := (table_ok (fun _ _ _ _ h => nexts_pos h) (fun ks s => sortT_mem) 40).1
  unfold measL at q
  generalize hTB : reachT gs 40 40 = tb at h3 q I0
  have hgt : gTb 1 l ds tb ∈ [gTb 1 l ds tb] := List.mem_cons_self
  refine w_ret (d_eq (d_lc (α := Nat) (me := 2) (enc := fun i => .int ((i : Int) + 1)) (ys := List.range 40) (tst := fun i => !(rw_ tb (i + 1)).isEmpty) (f := fun i => .int ((i : Int) + 1)) [("tick", 2)] (.nm 2) (rng_one ▸ i_range2 T.z_range d_i (d_add (d_gc T.c_MOST_TICKS) d_i) (by decide)) (fun s H' C cl fp => p_nm 2 nd) (fun i x Z' hx hz => ⟨_, rfl, fun s H' C cl fp => pts_oneD ?ts, fun _ s H' C cl fp => d_x 2 rfl⟩) (by decide) nd (bk_measured (by decide +kernel))) (by show D.lst _ = D.lst (List.map _ (List.map _ _)); rw [List.map_map]; rfl)) h3 fun v H4 e4 r => q v H4 (ei.trans e4) (ret_new (by decide) ei r)
  case ts =>
    have hi : x < 40 := List.mem_range.mp (List.mem_of_getElem? hx)
    have hl : x + 1 < tb.length := by rw [I0.len]; omega
    have hgz : gTb 1 l ds tb ∈ Z'.gs := by rw [hz.2]; exact hgt
    exact t_neE hr.units (x + 1) hgz (r_row (x + 1) hgz (r_x 1 rfl) (d_z (d_x 2 rfl) (by omega)) hl) (at_rw hl)
end
end R

set_option Elab.async false
set_option linter.all false
set_option maxRecDepth 100000
set_option maxHeartbeats 4000000
/-! DL53: x, y = a new table, {} (a dict keyed by pairs); if, its test a walk with effects. -/
namespace DL
open PySem L2
section
variable {X : Cx} {a e c : Expr} {pos : Pos} {rest as bs : List Stmt} {E : Ends} {σ : L2.St} {H : Hp} {Z : Fr} {Γ : List SV} {mt j : Nat} {rows : List Row} {row : Row} {tel : TE}
theorem pe_dnewN : PE X (.Dict [] [] pos) (fun σ H Q => ∀ p, H p = none → Q (.ref p) (upd H p (ndO X.prog X.w p []))) := ⟨fun pins s σ H Q I h =>
  wpAny_Dict_empty ⟨.ref s.heap.objs.size, _, I.laid (a := s.heap.objs.size) (o := ndO X.prog X.w s.heap.objs.size []) (t' := s.toks) (fun _ _ q => Heap.get?_push_of_some _ q) (Nat.le_refl _) (nd_ok (beq_eq_false_iff_ne.mpr (Ne.symm (Nat.ne_of_lt I.big))) (Heap.DictOfH.new _)), rfl, h _ (I.hok.fresh (Nat.le_refl _))⟩⟩
theorem w_tabN {tgs : List Expr} {kt k2 : Nat} {pt pt2 dp : Pos} (i j : Nat) (he : PE X a (tTb Z Γ mt rows)) (h : Holds Z σ H Γ) (hm1 : 1 ≤ mt)
    (k : ∀ l ds p σ' H', Ex H H' → p ∉ l :: ds → Holds { Z with ex := p :: ((l :: ds) ++ Z.ex), gs := (Z.gs ++ [gTb mt l ds rows]) ++ [gN X.prog X.w 1 p []] } σ' H' ((Γ.set i (.raw (.ref l))).set j (.raw (.ref p))) → wp X rest E σ' H')
    (hg : PG X (.Tuple tgs kt pt) (gTup X.K 2 (gPs X.K [.nm i, .nm j]))) (hpa : PA X [a, .Dict [] [] dp] (tWs X [a, .Dict [] [] dp]) := by exact pa_cons wE_ok (pa_cons wE_ok pa_nil rfl) rfl)
    (hs : swapsWithSole [.Tuple tgs kt pt] (.Tuple [a, .Dict [] [] dp] k2 pt2) pos.line X.env = pure false := by rfl) (hw : swappedStores [.Tuple tgs kt pt] (.Tuple [a, .Dict [] [] dp] k2 pt2) X.env = pure none := by rfl) (h1 : (assignEach [.Tuple tgs kt pt] X.env).map (·.2) = [assign (.Tuple tgs kt pt) X.env] := by rfl) :
    wp X (.Assign [.Tuple tgs kt pt] (.Tuple [a, .Dict [] [] dp] k2 pt2) pos :: rest) E σ H :=
  wp_cons (ps_asg (pe_tup hpa) hg hs hw h1) ⟨_, he, h, fun l ds H1 e1 new t => ⟨_, pe_dnewN, fun p hp => ⟨two_sz, fun q hq => ⟨q, [.ref l, .ref p], rfl, .of upd_same, rfl, by
    simp only [gPs, gP, gCons, gNil, gName]
    have ht := t.has
    have g1 := h.addG (g := gTb mt l ds rows) e1 (fun x hx => ⟨new x hx, (ht x hx).1⟩) hm1 t
    have hpl : p ∉ l :: ds := fun z => (ht p z).1 hp
    have g2 := g1.addG (g := gN X.prog X.w 1 p []) (H' := upd H1 p (ndO X.prog X.w p [])) (Ex.new hp) (fun x hx => by
      rw [List.mem_singleton.mp hx]
      exact ⟨hp, by rw [upd_same]; simp⟩) (Nat.le_refl 1) ⟨[], rfl, by show only [p] _ p = _; rw [only_at List.mem_cons_self, upd_same], fun x hx => by cases hx⟩
    have g3 := ((g2.grow (Ex.new (o := .tup [.ref l, .ref p]) hq)).raw i (.ref l)).raw j (.ref p)
    exact ⟨.ref l, [.ref p], rfl, .ref p, [], rfl, rfl, k l ds p _ _ (e1.trans ((Ex.new hp).trans (Ex.new hq))) hpl g3⟩⟩⟩⟩⟩
theorem w_ifKJ {J : Hp → Prop} {chg : List Addr} {f : List Int → Bool} {d : Addr} {b : Bool} (hc : PE X c (tKJ Z Γ J chg d row f j tel fun _ H Q => Q (.bl b) H)) (h : Holds Z σ H Γ) (hJ : J H)
    (hel : ∀ (p : List Int × D) (q : Addr) (H2 : Hp) (R : VK), p ∈ row → H2 q = some (.tup (p.1.map V.int)) → J H2 → (∀ x o, x ∉ chg → x ≠ d → H x = some o → H2 x = some o) →
      (∀ H3, J H3 → (∀ x o, x ∉ chg → H2 x = some o → H3 x = some o) → R (.bl (f p.1)) H3) → tel (σ.set j (some (.ref q))) H2 R)
    (k1 : b = true → ∀ H', J H' → (∀ x o, x ∉ chg → H x = some o → H' x = some o) → wp X as { E with nx := fun σ' H' => wp X rest E σ' H' } σ H') (k2 : b = false → ∀ H', J H' → (∀ x o, x ∉ chg → H x = some o → H' x = some o) → wp X bs { E with nx := fun σ' H' => wp X rest E σ' H' } σ H')
    (he : ∀ whole, isTrue c X.env whole = (do let v ← whole; standAt c.pos; holding [v] (truthy v)) := by intro _; rfl) : wp X (.If c as bs pos :: rest) E σ H := by
  refine wp_cons (ps_if (pt_val hc he) (pss_wp as) (pss_wp bs)) ⟨h, hJ, hel, fun D H' j' keep _ => ⟨b, rfl, ?_⟩⟩
  cases b with
  | true => exact iteT (k1 rfl H' j' keep)
  | false => exact iteF (k2 rfl H' j' keep)
end
end DL

set_option Elab.async false
set_option linter.all false
set_option maxRecDepth 100000
set_option maxHeartbeats 4000000
namespace R
open PySem L2 DL M
section
variable {P : Program} {w : World} {K : PySem.W.Frag} {mg : Str → Option Value} {base : Heap}
theorem nD_re {R R' : Hp} {v : V} {k : NK} (r : Rep R v (nD k)) (h : ∀ q us, R q = some (.tup us) → R' q = some (.tup us)) : Rep R' v (nD k) := by
  cases r with
  | tup h1 h2 =>
    refine .tup (h _ _ h1) ?_
    cases h2 with
    | cons r1 r2 =>
      cases r2 with
      | cons r2 r3 =>
        cases r3
        cases r2
        cases r1 with
        | tup k1 k2 =>
          rw [RepL.ints_inv k2] at k1
          exact .cons (.tup (h _ _ k1) (RepL.ints _)) (.cons (.int _) .nil)
theorem tab_keep {R R' O O' : Hp} {l : Addr} {td : List Addr} {rows : List Row} (t : TabAt R O l td rows) (e : Ex R R') (eo : ∀ x ∈ l :: td, ∀ o, O x = some o → O' x = some o) : TabAt R' O' l td rows :=
  ⟨eo _ List.mem_cons_self _ t.1, t.2.1, t.2.2.1, fun i d row hd hr => by
    obtain ⟨kvs, k1, k2, k3⟩ := t.2.2.2 i d row hd hr
    exact ⟨kvs, eo _ (List.mem_cons_of_mem _ (List.mem_of_getElem? hd)) _ k1, k2, k3.mono e⟩⟩
/-- the known ones stand at a, and are right -/
def JN (P : Program) (w : World) (nx : List Int → List Nx) (gs : List Int) (a : Addr) (H : Hp) : Prop := ∃ row, (gN P w 1 a row).P (reg [a] hn H) (only [a] H) ∧ NI nx gs row
theorem JN.stay {nx : List Int → List Nx} {gs : List Int} {a : Addr} (H H' : Hp) (j : JN P w nx gs a H) (ht : ∀ q us, H q = some (.tup us) → H' q = some (.tup us)) (hc : ∀ c ∈ [a], H' c = H c) : JN P w nx gs a H' := by
  obtain ⟨row, ⟨ks, k1, k2, k3⟩, ni⟩ := j
  refine ⟨row, ⟨ks, k1, ?_, fun x hx => nD_re (k3 x hx) fun q us z => ?_⟩, ni⟩
  · show only [a] H' a = _
    rw [only_at List.mem_cons_self, hc a List.mem_cons_self]
    exact (only_some k2).2
  · obtain ⟨z1, z2, z3, z4⟩ := reg_some4 z
    exact reg_has z1 rfl (ht _ _ z3) z4
theorem JN.has {nx : List Int → List Nx} {gs : List Int} {a : Addr} (H : Hp) (j : JN P w nx gs a H) : ∃ ks, H a = some (ndO P w a ks) := by
  obtain ⟨row, ⟨ks, _, k2, _⟩, _⟩ := j
  exact ⟨ks, (only_some k2).2⟩
def tCan (P : Program) (w : World) (i0 i1 i2 i3 : Nat) : TE := fun σ H Q => ∃ v0 v1 v2 v3, σ[i0]? = some (some v0) ∧ σ[i1]? = some (some v1) ∧ σ[i2]? = some (some v2) ∧ σ[i3]? = some (some v3) ∧ sp_can P w [v0, v1, v2, v3] H Q E0
theorem e_can {X : Cx} {j : Nat} {x0 x1 x2 x3 : Str} {p p0 p1 p2 p3 pos : Pos} (i0 i1 i2 i3 : Nat) (T : Txt X.K X.mg) (hr : Room j X.A) (ha : PA X [.Name x0 p0, .Name x1 p1, .Name x2 p2, .Name x3 p3] (fun σ H Q => tVar i0 σ H fun v0 H1 => tVar i1 σ H1 fun v1 H2 => tVar i2 σ H2 fun v2 H3 => tVar i3 σ H3 fun v3 H4 => Q [v0, v1, v2, v3] H4)) (hk : 3 ≤ j := by decide) (hg : L2.Gl X "can_fall" := by rfl)
    (q1 : starEach [.Name x0 p0, .Name x1 p1, .Name x2 p2, .Name x3 p3] X.env = (false, eval (.Name x0 p0) X.env) :: starEach [.Name x1 p1, .Name x2 p2, .Name x3 p3] X.env := by rfl) (hpl : (backTo pos (starEach [.Name x1 p1, .Name x2 p2, .Name x3 p3] X.env)).any (·.1) = false := by rfl) :
    PE X (.Call (.Name "can_fall" p) [.Name x0 p0, .Name x1 p1, .Name x2 p2, .Name x3 p3] [] pos) (tCan X.prog X.w i0 i1 i2 i3) :=
  pe_imp (pe_call (ok_can_fall T) (hr.mono hk) hg T.d_can_fall.g T.d_can_fall.F.kp T.d_can_fall.b .nil pass0 ha (by decide) q1 hpl) fun σ H Q ⟨v0, v1, v2, v3, h0, h1, h2, h3, h⟩ => ⟨v0, h0, v1, h1, v2, h2, v3, h3, h⟩
def earO (gs : List Int) (n : Nat) : Option Nat := (List.range 41).find? fun t => (rw_ (reachT gs 40 40) t).any fun p => canB (nexts gs) n p.1
def earD (gs : List Int) (n : Nat) : D := match earO gs n with
  | none => .non
  | some t => .int (t : Int)
abbrev sp_earliest (Cg Ct : Addr) : Sp := PurX (fun a : D × D => [a.1, a.2]) (fun a => knd1 a.1 = true ∧ knd a.2 = true) fun a => if isGlasses 3 a.1 then if isWithin 1 40 a.2 then .inr (earD (isD a.1) (iD a.2).toNat) else .inl Ct else .inl Cg
theorem ok_earliest (T : Txt K mg) : FnOk P w K mg base (L2.CX P w) 5 T.d_earliest.f T.d_earliest.fd ["glasses", "span"] (sp_earliest T.e_BadGlasses.C T.e_BadTicks.C) := by
  refine Fun.purX T.d_earliest.F sc_earliest (fun _ => rfl) (by decide) fun cdv A outer s H σ E Q a hr hp h q => ?_
  obtain ⟨g, t⟩ := a
  obtain ⟨hg, ht⟩ := hp
  have nd := sc_earliest.nd
  dsimp only at q hg ht
  have h : Holds { h0 := H } σ H [.dat 1 g, .dat 1 t, .any, .any, .any, .any] := h
  refine w_glassesX T hr (own_pass (takes_of rfl rfl rfl rfl)) hg (d_x 0 rfl) (d_gc T.c_MOST_GLASSES) h (fun gs eg hG hg' H1 e1 h1 => ?_) fun hg' H1 e1 => ?_
  rotate_left
  · rw [hg', if_neg Bool.false_ne_true] at q
    exact q H1 e1
  rw [hg', if_pos rfl] at q
  subst eg
  rw [isD_dI] at q
  refine w_exprX (x_fn T.d_check_ticks (ok_check_ticks T) hr (own_pass (takes_of rfl rfl rfl rfl)) (PurX.both t ht) (a_cons (d_x 1 rfl) a_nil)) h1 (fun d hd H2 e2 h2 => ?_) fun C hC H2 e2 => ?_
  rotate_left
  · have ht' : isWithin 1 40 t = false := by
      cases z : isWithin 1 40 t with
      | false => rfl
      | true => rw [z] at hC; cases hC
    rw [ht', if_neg Bool.false_ne_true] at q
    rw [ht'] at hC
    cases hC
    exact q H2 (e1.trans e2)
  have ht' : isWithin 1 40 t = true := by
    cases z : isWithin 1 40 t with
    | true => rfl
    | false => rw [z] at hd; cases hd
  rw [ht', if_pos rfl] at q
  obtain ⟨i, rfl, i1, i2⟩ := within_intS ht'
  obtain ⟨n, rfl⟩ : ∃ n : Nat, i = (n : Int) := ⟨i.toNat, by omega⟩
  rw [show (iD (.int (n : Int))).toNat = n from Int.toNat_natCast n] at q
  have hgl := hG.hi
  have hu := hr.units
  have I0 : Inv (nexts gs) (zeros gs) 40 (reachT gs 40 40) := (table_ok (fun _ _ _ _ h => nexts_pos h) (fun ks s => sortT_mem) 40).1
  refine w_tabN (mt := 1) 2 3 (d_fnTb T.d_reached (ok_reached T) hr (gs, 40) ⟨hG, show 40 ≤ 1000 by decide⟩ (NoTu.nil rfl) okM.one (a_cons (d_x 0 rfl) (a_cons (d_eq (d_lst (a_cons (d_repS (xs := [.int 0]) (d_lst (a_cons d_i a_nil) one_sz) (d_len T.z_len (d_x 0 rfl)) rfl (by omega) (by rw [List.length_map]; omega) (by simp; exact sz_of (by omega))) a_nil) one_sz) ?hz) (a_cons (d_gc T.c_MOST_TICKS) a_nil)))) h2 (Nat.le_refl 1) (fun l ds a σ3 H3 e3 hal h3 => ?_) (p_tp (q_cons (p_nm 2 nd) (q_cons (p_nm 3 nd) q_nil)))
  case hz =>
    show D.lst [_] = D.lst [dI (zeros gs)]
    rw [rep_one]; unfold zeros dI; rw [List.map_replicate, List.length_map]; simp
  dsimp only [List.set, List.map, List.cons_append, List.nil_append, List.length, List.replicate] at h3
  rw [List.append_nil] at h3
  have ei : Ex H H3 := e1.trans (e2.trans e3)
  unfold earD earO at q
  generalize hTB : reachT gs 40 40 = tb at h3 q I0
  have h3 : Holds { h0 := H, ex := a :: l :: ds, gs := [gTb 1 l ds tb, gN P w 1 a []] } σ3 H3 [.dat 1 (dI gs), .dat 1 (.int (n : Int)), .raw (.ref l), .raw (.ref a), .any, .any] := h3
  refine w_forZ (Z := { h0 := H, ex := a :: l :: ds, gs := [gTb 1 l ds tb, gN P w 1 a []] }) (S := NRow) (p := .nm 4) (i_rangeN (n := 41) T.z_range (d_z (d_add (d_gc T.c_MOST_TICKS) d_i) (by decide)) (by decide)) (by decide) (p_nm 4 nd) (passes_of rfl) rfl h3 (fun s => [gTb 1 l ds tb, gN P w 1 a s]) (fun _ => [.dat 1 (dI gs), .dat 1 (.int (n : Int)), .raw (.ref l), .raw (.ref a), .any, .any])
    (fun i s => NI (nexts gs) gs s ∧ ∀ t < i, ((rw_ tb t).any fun p => canB (nexts gs) n p.1) = false) [] ⟨NI.nil, fun t ht => by omega⟩ rfl (fun _ _ z => z) (fun i d s B σ4 H4 hi is h4 => ?_) (fun s σ4 H4 is h4 => ?_)
  · obtain ⟨ni, hbefore⟩ := is
    obtain ⟨hi41, rfl⟩ := rng_get hi
    refine ⟨_, rfl, fun σ5 H5 h5 => ?_⟩
    have h5 : Holds { h0 := H, fs := [B], ex := a :: l :: ds, gs := [gTb 1 l ds tb, gN P w 1 a s] } σ5 H5 [.dat 1 (dI gs), .dat 1 (.int (n : Int)), .raw (.ref l), .raw (.ref a), .dat 2 (.int (0 + (i : Int))), .any] := h5
    have hgt : gTb 1 l ds tb ∈ [gTb 1 l ds tb, gN P w 1 a s] := List.mem_cons_self
    have hgn : gN P w 1 a s ∈ [gTb 1 l ds tb, gN P w 1 a s] := List.mem_cons_of_mem _ List.mem_cons_self
    have hlt : i < tb.length := by rw [I0.len]; omega
    have tab := h5.tabAt hgt
    have hdk := tab_ref tab hlt
    have hdm : ds.getD i 0 ∈ ds := List.mem_of_getElem? hdk
    have hda : ds.getD i 0 ∉ [a] := fun z => hal (List.mem_cons_of_mem _ (by rw [← List.mem_singleton.mp z]; exact hdm))
    have hO : ∀ x, x ∈ a :: l :: ds → x ∈ Fr.O { h0 := H, fs := [B], ex := a :: l :: ds, gs := [gTb 1 l ds tb, gN P w 1 a s] } σ5 [.dat 1 (dI gs), .dat 1 (.int (n : Int)), .raw (.ref l), .raw (.ref a), .dat 2 (.int (0 + (i : Int))), .any] := fun x hx => List.mem_append_left _ hx
    have hO2 : ∀ x, x ∈ Fr.O { h0 := H, fs := [B], ex := a :: l :: ds, gs := [gTb 1 l ds tb, gN P w 1 a s] } σ5 [.dat 1 (dI gs), .dat 1 (.int (n : Int)), .raw (.ref l), .raw (.ref a), .dat 2 (.int (0 + (i : Int))), .any] → x ∈ a :: l :: ds := fun x hx => by
      rcases List.mem_append.mp hx with z | z
      · exact z
      · obtain ⟨i', m', ds', _, e⟩ := mem_owns.mp z
        rcases i' with _ | _ | _ | _ | _ | _ | i' <;> simp at e
    have j5 : JN P w (nexts gs) gs a H5 := ⟨s, (gN P w 1 a s).mono (reg_ex (fun x hx => .inl (hO x (by rw [List.mem_singleton.mp hx]; exact List.mem_cons_self))) (Ex.refl _) (Ex.refl _)) (h5.gok _ hgn).2.2, ni⟩
    obtain ⟨gv, eg, rg0⟩ := h5.rep_at 0 rfl
    obtain ⟨v1, en, rn⟩ := h5.rep_at 1 rfl
    obtain ⟨v4, e4', r4⟩ := h5.rep_at 4 rfl
    cases rn
    cases r4
    have ea : σ5[3]? = some (some (.ref a)) := by
      have hl : 3 < σ5.length := by rw [h5.len]; exact (show 3 < 6 by decide)
      rw [List.getElem?_eq_getElem hl, h5.ok 3 _ _ (List.getElem?_eq_getElem hl) rfl]
    have back : ∀ (s' : NRow) (H6 : Hp), (∀ x o, x ∉ [a] → H5 x = some o → H6 x = some o) → (gN P w 1 a s').P (reg [a] hn H6) (only [a] H6) → Holds { h0 := H, fs := [B], ex := a :: l :: ds, gs := [gTb 1 l ds tb, gN P w 1 a s'] } σ5 H6 [.dat 1 (dI gs), .dat 1 (.int (n : Int)), .raw (.ref l), .raw (.ref a), .dat 2 (.int (0 + (i : Int))), .any] := fun s' H6 keep tab' => by
      have kx : ∀ x ∈ l :: ds, ∀ o, H5 x = some o → H6 x = some o := fun x hx o z => keep x o (fun y => hal (by rw [← List.mem_singleton.mp y]; exact hx)) z
      have hh : ∀ x ∈ l :: ds, H6 x ≠ none ∧ ∀ us, H6 x ≠ some (.tup us) := fun x hx => by
        obtain ⟨t1, t2⟩ := tab.has x hx
        cases z : H5 x with
        | none => exact absurd z t1
        | some o =>
          rw [kx x hx o z]
          exact ⟨by simp, fun us e => t2 us (by rw [z]; exact e)⟩
      have ha6 : ∃ ks, H6 a = some (ndO P w a ks) := by
        obtain ⟨ks, _, k2, _⟩ := tab'
        exact ⟨ks, (only_some k2).2⟩
      refine h5.change (as' := []) (gs' := [gTb 1 l ds tb, gN P w 1 a s']) (fun x o hx hz _ => keep x o (fun y => hx (by rw [List.mem_singleton.mp y]; exact List.mem_cons_self)) hz) rfl (fun x hx => ?_) (fun x o hz => keep x o (fun y => ?_) (h5.h0x x o hz)) (fun x hx => by cases hx) (fun g hg => ?_) ?_
      · rcases List.mem_cons.mp hx with z | z
        · obtain ⟨ks, e⟩ := ha6
          rw [z, e]; simp
        · exact (hh x z).1
      · have := (h5.ext H (.inl rfl)).2 a (hO a List.mem_cons_self)
        have hz' : H x = some o := hz
        have this : H a = none := this
        rw [← List.mem_singleton.mp y, hz'] at this; cases this
      · rcases List.mem_cons.mp hg with z | hg
        · subst z
          refine ⟨fun x hx => List.mem_cons_of_mem _ hx, Nat.le_refl 1, tab_keep tab (fun x o z => ?_) fun x hx o z => ?_⟩
          · obtain ⟨z1, z2, z3, z4⟩ := reg_some4 z
            exact reg_has z1 rfl (keep x o (fun y => z1 (hO x (by rw [List.mem_singleton.mp y]; exact List.mem_cons_self))) z3) z4
          · show only (l :: ds) H6 x = _
            rw [only_at hx]
            exact kx x hx o (only_some z).2
        · rw [List.mem_singleton.mp hg]
          refine ⟨fun x hx => by rw [List.mem_singleton.mp hx]; exact List.mem_cons_self, Nat.le_refl 1, ?_⟩
          obtain ⟨ks, k1, k2, k3⟩ := tab'
          refine ⟨ks, k1, k2, fun x hx => nD_re (k3 x hx) fun q us z => ?_⟩
          obtain ⟨z1, z2, z3, z4⟩ := reg_some4 z
          refine reg_has (fun y => ?_) rfl z3 z4
          rcases List.mem_cons.mp (hO2 q y) with w | w
          · exact z1 (List.mem_singleton.mpr w)
          · exact (hh q w).2 us z3
      · refine List.pairwise_cons.mpr ⟨fun g hg x hx y => ?_, List.pairwise_singleton _ _⟩
        rw [List.mem_singleton.mp hg] at y
        exact hal (by rw [← List.mem_singleton.mp y]; exact hx)
    refine w_ifKJ (tel := tCan P w 0 3 5 1) (J := JN P w (nexts gs) gs a) (chg := [a]) (f := fun st => canB (nexts gs) n st) (d := ds.getD i 0) (row := rw_ tb i) (b := (rw_ tb i).any fun p => canB (nexts gs) n p.1) (j := 5) (e_anyKJ T.z_any (d_lcKJ 5 i (pe_ix ix_list (pe_var (i := 2) rfl (.inl rfl)) (pe_var (i := 4) rfl (.inl rfl)) (fun _ _ => rfl)) (fun σ6 H6 Hl Q h6 hl6 q6 => ?hte) hgt (at_rw hlt) (by have := inv_small hG I0 i; omega) JN.stay (fun H6 j6 c hc => ?hch) hda (fun s H' C cl fp => p_nm 5 nd) (fun s H' C cl fp => ?hcan) [("stand", 5)] nd (bk_earliest (by decide +kernel)))) h5 j5 (fun p q6 H6 R hp hq j6 keep6 res => ?hel) (fun hb H6 j6 keep6 => ?_) fun hb H6 j6 keep6 => ?_
    case hch =>
      obtain ⟨ks, e⟩ := j6.has
      rw [List.mem_singleton.mp hc, e]; simp
    case hcan =>
      exact e_can 0 3 5 1 T hr (pa_cons (pe_var (i := 0) rfl (by first | exact Or.inl rfl | exact Or.inr (Or.inl rfl) | exact Or.inr (Or.inr rfl))) (pa_cons (pe_var (i := 3) rfl (by first | exact Or.inl rfl | exact Or.inr (Or.inl rfl) | exact Or.inr (Or.inr rfl))) (pa_cons (pe_var (i := 5) rfl (by first | exact Or.inl rfl | exact Or.inr (Or.inl rfl) | exact Or.inr (Or.inr rfl))) (pa_cons (pe_var (i := 1) rfl (by first | exact Or.inl rfl | exact Or.inr (Or.inl rfl) | exact Or.inr (Or.inr rfl))) pa_nil rfl) rfl) rfl) rfl)
    case hte =>
      have hl2 : 2 < σ6.length := by rw [h6.len]; exact (show 2 < 6 by decide)
      have e2' : σ6[2]? = some (some (.ref l)) := by rw [List.getElem?_eq_getElem hl2, h6.ok 2 _ _ (List.getElem?_eq_getElem hl2) rfl]
      obtain ⟨v4, e4'', r4⟩ := h6.rep_at 4 rfl
      cases r4
      have hl : H6 l = some (.lst (ds.map V.ref)) := (only_some (h6.tabAt hgt).1).2
      have hnl : l ≠ ds.getD i 0 := fun z => (List.nodup_cons.mp tab.2.2.1).1 (by rw [z]; exact hdm)
      have hlen : i < (ds.map V.ref).length := by rw [List.length_map, tab.2.1]; exact hlt
      refine ⟨.ref l, e2', .int (0 + (i : Int)), e4'', l, ds.map V.ref, (i : Int), .ref (ds.getD i 0), rfl, by rw [Int.zero_add], .of (by rw [hl6 l hnl]; exact hl), ?_, q6⟩
      unfold atI
      rw [ix_nat hlen, Option.bind_some, List.getElem?_map, hdk]; rfl
    case hel =>
      have eg' : (σ5.set 5 (some (V.ref q6)))[0]? = some (some gv) := by rw [List.getElem?_set_ne (by decide)]; exact eg
      have en' : (σ5.set 5 (some (V.ref q6)))[1]? = some (some (.int (n : Int))) := by rw [List.getElem?_set_ne (by decide)]; exact en
      have ea' : (σ5.set 5 (some (V.ref q6)))[3]? = some (some (.ref a)) := by rw [List.getElem?_set_ne (by decide)]; exact ea
      have es' : (σ5.set 5 (some (V.ref q6)))[5]? = some (some (.ref q6)) := List.getElem?_set_self (by rw [h5.len]; exact (show 5 < 6 by decide))
      obtain ⟨row6, tab6, ni6⟩ := j6
      have ha6 : ∃ ks, H6 a = some (ndO P w a ks) := by
        obtain ⟨ks, _, k2, _⟩ := tab6
        exact ⟨ks, (only_some k2).2⟩
      refine ⟨gv, .ref a, .ref q6, .int (n : Int), eg', ea', es', en', gs, p.1, n, a, row6, gv, .ref q6, rfl, hG, by omega, by omega, inv_st hG I0 (List.mem_map.mpr ⟨p, hp, rfl⟩), ni6, tab6, rg0.mono fun x o z => ?_, .tup (reg_has (fun y => ?_) rfl hq trivial) (RepL.ints _), fun H7 row7 keep7 tab7 ni7 => res H7 ⟨row7, tab7, ni7⟩ fun x o hx hz => keep7 x o (fun y => hx (List.mem_singleton.mpr y)) hz⟩
      · obtain ⟨z1, z2, z3, z4⟩ := reg_some4 z
        have hxa : x ∉ [a] := fun y => z1 (hO x (by rw [List.mem_singleton.mp y]; exact List.mem_cons_self))
        exact reg_has hxa rfl (keep6 x o hxa (fun y => z1 (hO x (by rw [y]; exact List.mem_cons_of_mem _ (List.mem_cons_of_mem _ hdm)))) z3) z4
      · obtain ⟨ks, e⟩ := ha6
        rw [List.mem_singleton.mp y, e] at hq; cases hq
    · obtain ⟨row6, tab6, ni6⟩ := j6
      have h6 := back row6 H6 keep6 tab6
      have hf : (List.range 41).find? (fun t => (rw_ tb t).any fun p => canB (nexts gs) n p.1) = some i := by
        rw [List.find?_range_eq_some]
        exact ⟨hb, List.mem_range.mpr hi41, fun j hj => by rw [hbefore j hj]; rfl⟩
      rw [hf] at q
      refine w_ret (d_x 4 rfl) h6 fun v H7 e7 r => q v H7 (h6.h0x.trans e7) ?_
      rw [Int.zero_add] at r
      exact ret_new (by decide) h6.h0x r
    · obtain ⟨row6, tab6, ni6⟩ := j6
      have h6 := back row6 H6 keep6 tab6
      refine wp_nil (wp_nil ⟨row6, ⟨ni6, fun t ht => ?_⟩, h6.drops [4]⟩)
      rcases Nat.lt_or_ge t i with z | z
      · exact hbefore t z
      · rw [show t = i by omega]; exact hb
  · obtain ⟨ni, hall⟩ := is
    have hf : (List.range 41).find? (fun t => (rw_ tb t).any fun p => canB (nexts gs) n p.1) = none := by
      rw [List.find?_eq_none]
      intro t ht
      rw [hall t (by
        have := List.mem_range.mp ht
        rw [rng_len]; exact this)]
      simp
    rw [hf] at q
    refine w_ret d_n h4 fun v H7 e7 r => q v H7 (h4.h0x.trans e7) (ret_new (by decide) h4.h0x r)
end
end R

set_option Elab.async false
set_option linter.all false
set_option maxRecDepth 100000
set_option maxHeartbeats 4000000
/-! DL54: a new table's row against {}. -/
namespace DL
open PySem L2
section
variable {X : Cx} {e ix : Expr} {pos pos2 dp : Pos} {Z : Fr} {Γ : List SV} {mt mi k : Nat} {rows : List Row} {row : Row}
theorem t_tbNe (hu : X.A.units + 64 < cLine) (k : Nat) (he : PE X e (tTb Z Γ mt rows)) (hi : PE X ix (tD Z Γ mi (.int (k : Int)))) (hr : rows[k]? = some row) (hs : PlainIx ix := by exact fun _ _ => rfl) : PT X (.Compare (.Subscript e ix pos) [.NotEq] [.Dict [] [] dp] pos2) (tDT Z Γ (!row.isEmpty)) :=
  pt_imp (pt_cmpR (op_ne0 (by omega)) (pe_ix ix_list he hi hs) pe_dnewT rfl) fun σ H Q h => ⟨h.1, fun l td H1 e1 new t => by
    have g1 := h.1.grow e1
    refine ⟨g1, fun y H2 e2 r => ?_⟩
    cases r
    have hk : k < rows.length := (List.getElem?_eq_some_iff.mp hr).1
    have hl : H1 l = some (.lst (td.map V.ref)) := (only_some t.1).2
    have hlen : k < (td.map V.ref).length := by rw [List.length_map, t.2.1]; exact hk
    have h0 : td[k]? = some (td.getD k 0) := tab_ref t hk
    refine ⟨l, td.map V.ref, (k : Int), .ref (td.getD k 0), rfl, rfl, .of (e2 _ _ hl), ?_, fun p hp => ?_⟩
    · unfold atI
      rw [ix_nat hlen, Option.bind_some, List.getElem?_map, h0]; rfl
    obtain ⟨kvs, k1, k2, k3⟩ := t.2.2.2 k _ row h0 hr
    refine ⟨_, p, kvs, rfl, rfl, Ex.new hp _ _ (e2 _ _ (only_some k1).2), upd_same, ⟨_, rfl, ?_⟩⟩
    rw [row_empty k2]
    exact h.2 _ ((e1.trans e2).trans (Ex.new hp))⟩
end
end DL

set_option Elab.async false
set_option linter.all false
set_option maxRecDepth 100000
set_option maxHeartbeats 4000000
namespace R
open PySem L2 DL M
section
variable {P : Program} {w : World} {K : PySem.W.Frag} {mg : Str → Option Value} {base : Heap}
def firstN (sm : List Int) : Int := if sm = [] then 0 else sm.getLastD 0 + 1
def longerL (len : Nat) (sm : List Int) : List (List Int) := (List.range ((len : Int) - firstN sm).toNat).map fun i : Nat => sm ++ [firstN sm + (i : Int)]
def levL (len : Nat) : Nat → List (List Int)
  | 0 => [[]]
  | k + 1 => (levL len k).flatMap (longerL len)
def pickS (spans sm : List Int) : List Int := sm.map fun p => spans.getD p.toNat 0
def hitB (spans : List Int) (n : Nat) (sm : List Int) : Bool := !(rw_ (reachT (pickS spans sm) n n) n).isEmpty
def leastO (spans : List Int) (n : Nat) : Option (List Int) := (List.range (min 3 spans.length)).findSome? fun k => (levL spans.length (k + 1)).find? (hitB spans n)
def leastD (spans : List Int) (n : Nat) : D := match leastO spans n with
  | none => .non
  | some l => dI l
structure LevOk (len k : Nat) (sm : List Int) : Prop where
  l : sm.length = k
  b : ∀ p ∈ sm, 0 ≤ p ∧ p < (len : Int)
theorem firstN_nn {len k : Nat} {sm : List Int} (h : LevOk len k sm) : 0 ≤ firstN sm := by
  unfold firstN
  split
  · omega
  · rename_i z
    have := h.b (sm.getLastD 0) (by rw [List.getLastD_eq_getLast?, List.getLast?_eq_some_getLast z]; exact List.getLast_mem z)
    omega
theorem firstN_le {len k : Nat} {sm : List Int} (h : LevOk len k sm) : firstN sm ≤ (len : Int) := by
  unfold firstN
  split
  · omega
  · rename_i z
    have := h.b (sm.getLastD 0) (by rw [List.getLastD_eq_getLast?, List.getLast?_eq_some_getLast z]; exact List.getLast_mem z)
    omega
theorem findSome_range {β : Type} {f : Nat → Option β} {b : β} {k : Nat} (hk : f k = some b) (hb : ∀ j < k, f j = none) : ∀ m, k < m → (List.range m).findSome? f = some b
  | 0, h => by omega
  | m + 1, h => by
    rw [List.range_succ, List.findSome?_append]
    by_cases z : k < m
    · rw [findSome_range hk hb m z]; rfl
    · have e : k = m := by omega
      have : (List.range m).findSome? f = none := List.findSome?_eq_none_iff.mpr fun j hj => hb j (by have := List.mem_range.mp hj; omega)
      rw [this, ← e]
      simp [hk]
theorem lev_ok (len : Nat) : ∀ k, ∀ sm ∈ levL len k, LevOk len k sm
  | 0, sm, h => by
    rw [List.mem_singleton.mp h]
    exact ⟨rfl, fun p hp => by cases hp⟩
  | k + 1, sm, h => by
    obtain ⟨s, hs, h⟩ := List.mem_flatMap.mp h
    have ih := lev_ok len k s hs
    obtain ⟨i, hi, rfl⟩ := List.mem_map.mp h
    have hi := List.mem_range.mp hi
    have := firstN_nn ih
    refine ⟨by rw [List.length_append, ih.l]; rfl, fun p hp => ?_⟩
    rcases List.mem_append.mp hp with z | z
    · exact ih.b p z
    · rw [List.mem_singleton.mp z]; omega
theorem longer_len (len : Nat) {k : Nat} {sm : List Int} (h : LevOk len k sm) : (longerL len sm).length ≤ len := by
  unfold longerL
  rw [List.length_map, List.length_range]
  have := firstN_nn h
  omega
theorem flat_len {α β : Type} {f : α → List β} {n : Nat} : ∀ {xs : List α}, (∀ x ∈ xs, (f x).length ≤ n) → (xs.flatMap f).length ≤ xs.length * n
  | [], _ => by simp
  | x :: xs, h => by
    rw [List.flatMap_cons, List.length_append, List.length_cons, Nat.succ_mul]
    have h1 := h x List.mem_cons_self
    have h2 := flat_len (f := f) (xs := xs) fun y hy => h y (List.mem_cons_of_mem _ hy)
    omega
theorem lev_len {len : Nat} (hl : len ≤ 5) : ∀ k, (levL len k).length ≤ 5 ^ k
  | 0 => Nat.le_refl 1
  | k + 1 => by
    have h1 := flat_len (f := longerL len) (n := 5) (xs := levL len k) fun s hs => Nat.le_trans (longer_len len (lev_ok len k s hs)) hl
    have h2 := lev_len hl k
    rw [Nat.pow_succ]
    exact Nat.le_trans h1 (Nat.mul_le_mul_right 5 h2)
theorem gl_pick {spans sm : List Int} {k : Nat} (hs : ∀ g ∈ spans, 1 ≤ g ∧ g ≤ 12) (h : LevOk spans.length (k + 1) sm) (hk : k < 3) : Gl (pickS spans sm) := by
  refine ⟨by unfold pickS; rw [List.length_map, h.l]; omega, by unfold pickS; rw [List.length_map, h.l]; omega, fun g hg => ?_⟩
  obtain ⟨p, hp, rfl⟩ := List.mem_map.mp hg
  obtain ⟨h1, h2⟩ := h.b p hp
  rw [List.getD_eq_getElem?_getD, List.getElem?_eq_getElem (show p.toNat < spans.length by omega)]
  exact hs _ (List.getElem_mem _)
abbrev sp_least (Cg Ct : Addr) : Sp := PurX (fun a : D × D => [a.1, a.2]) (fun a => knd1 a.1 = true ∧ knd a.2 = true) fun a => if isGlasses 5 a.1 then if isWithin 1 40 a.2 then .inr (leastD (isD a.1) (iD a.2).toNat) else .inl Ct else .inl Cg
abbrev GL (gs : List Int) (n : Nat) (ps : List (List Int)) (b c d e f g : SV) : List SV := [.dat 1 (dI gs), .dat 1 (.int (n : Int)), .dat 2 (dL ps), b, c, d, e, f, g]
theorem ok_least_glasses (T : Txt K mg) : FnOk P w K mg base (L2.CX P w) 5 T.d_least_glasses.f T.d_least_glasses.fd ["spans", "ticks"] (sp_least T.e_BadGlasses.C T.e_BadTicks.C) := by
  refine Fun.purX T.d_least_glasses.F sc_least_glasses (fun _ => rfl) (by decide) fun cdv A outer s H σ E Q a hr hp h q => ?_
  obtain ⟨g, t⟩ := a
  obtain ⟨hg, ht⟩ := hp
  have nd := sc_least_glasses.nd
  dsimp only at q hg ht
  have h : Holds { h0 := H } σ H [.dat 1 g, .dat 1 t, .any, .any, .any, .any, .any, .any, .any] := h
  refine w_exprX (x_fn T.d_check_glasses (ok_check_glasses T) hr (own_pass (takes_of rfl rfl rfl rfl)) (PurX.both (g, 5) hg) (a_cons (d_x 0 rfl) (a_cons (d_gc T.c_MOST_SPANS) a_nil))) h (fun d hd H1 e1 h1 => ?_) fun C hC H1 e1 => ?_
  rotate_left
  · have hg' : isGlasses 5 g = false := by
      cases z : isGlasses 5 g with
      | false => rfl
      | true => dsimp only at hC; rw [z] at hC; cases hC
    rw [hg', if_neg Bool.false_ne_true] at q
    dsimp only at hC
    rw [hg'] at hC
    cases hC
    exact q H1 e1
  have hg' : isGlasses 5 g = true := by
    cases z : isGlasses 5 g with
    | true => rfl
    | false => dsimp only at hd; rw [z] at hd; cases hd
  rw [hg', if_pos rfl] at q
  obtain ⟨gs, rfl⟩ := glasses_ints hg'
  rw [isD_dI] at q
  obtain ⟨hl5, hsp⟩ : gs.length ≤ 5 ∧ ∀ g ∈ gs, 1 ≤ g ∧ g ≤ 12 := by
    obtain ⟨h1, h2⟩ := Bool.and_eq_true_iff.mp hg'
    obtain ⟨h3, h4⟩ := Bool.and_eq_true_iff.mp h1
    have h4 := of_decide_eq_true h4
    rw [List.length_map] at h4
    refine ⟨by omega, fun g hg => ?_⟩
    have := List.all_eq_true.mp h2 (.int g) (List.mem_map.mpr ⟨g, hg, rfl⟩)
    obtain ⟨i, e, k1, k2⟩ := within_intS this
    cases e
    exact ⟨k1, k2⟩
  refine w_exprX (x_fn T.d_check_ticks (ok_check_ticks T) hr (own_pass (takes_of rfl rfl rfl rfl)) (PurX.both t ht) (a_cons (d_x 1 rfl) a_nil)) h1 (fun d hd H2 e2 h2 => ?_) fun C hC H2 e2 => ?_
  rotate_left
  · have ht' : isWithin 1 40 t = false := by
      cases z : isWithin 1 40 t with
      | false => rfl
      | true => rw [z] at hC; cases hC
    rw [ht', if_neg Bool.false_ne_true] at q
    rw [ht'] at hC
    cases hC
    exact q H2 (e1.trans e2)
  have ht' : isWithin 1 40 t = true := by
    cases z : isWithin 1 40 t with
    | true => rfl
    | false => rw [z] at hd; cases hd
  rw [ht', if_pos rfl] at q
  obtain ⟨i, rfl, i1, i2⟩ := within_intS ht'
  obtain ⟨n, rfl⟩ : ∃ n : Nat, i = (n : Int) := ⟨i.toNat, by omega⟩
  rw [show (iD (.int (n : Int))).toNat = n from Int.toNat_natCast n] at q
  have hu := hr.units
  unfold leastD leastO at q
  refine w_set (d := dL [[]]) 2 (d_lst (a_cons (d_lst a_nil (by decide)) a_nil) one_sz) h2 (fun σ3 H3 e3 h3 => ?_) nd
  have h3 : Holds { h0 := H } σ3 H3 (GL gs n [[]] .any .any .any .any .any .any) := h3
  refine w_forS (S := Nat) (m := 3) (xs := rng 0 (min 3 gs.length)) (.nm 3) (i_rangeN T.z_range (d_z (d_min2 T.z_min (d_gc T.c_MOST_GLASSES) (d_z (j := (gs.length : Int)) (d_len T.z_len (d_x 0 rfl)) (by rw [List.length_map]))) (by omega)) (by omega)) (by decide) (p_nm 3 nd) (passes_of rfl) rfl h3 (fun k => GL gs n (levL gs.length k) .any .any .any .any .any .any)
    (fun i k => k = i ∧ ∀ j < i, (levL gs.length (j + 1)).find? (hitB gs n) = none) 0 ⟨rfl, fun j hj => by omega⟩ (fun _ _ z => z) (fun i d k B σ4 H4 hi is h4 => ?_) (fun k σ4 H4 is h4 => ?_)
  · obtain ⟨rfl, hbefore⟩ := is
    obtain ⟨hi3, rfl⟩ := rng_get hi
    refine ⟨_, rfl, fun σ5 H5 h5 => ?_⟩
    have h5 : Holds { h0 := H, fs := [B] } σ5 H5 (GL gs n (levL gs.length k) (.dat 2 (.int (0 + (k : Int)))) .any .any .any .any .any) := h5
    have hlk := lev_len hl5 k
    have hk3 : k < 3 := by omega
    have h5k : 5 ^ k ≤ 5 ^ 2 := Nat.pow_le_pow_right (by decide) (by omega)
    refine w_own 4 (d_lst a_nil (by decide)) h5 (fun σ6 H6 e6 h6 => ?_) nd
    have h6 : Holds { h0 := H, fs := [B] } σ6 H6 (GL gs n (levL gs.length k) (.dat 2 (.int (0 + (k : Int)))) (.own 2 []) .any .any .any .any) := h6
    refine w_for (m := 2) (xs := (levL gs.length k).map dI) (.nm 5) (i_list (d_x 2 rfl)) (by decide) (p_nm 5 nd) (passes_of rfl) rfl h6 (fun j => GL gs n (levL gs.length k) (.dat 2 (.int (0 + (k : Int)))) (.own 2 ((((levL gs.length k).take j).flatMap (longerL gs.length)).map dI)) .any .any .any .any) (fun _ _ z => z) (fun j d B2 σ7 H7 hj h7 => ?_) (fun σ7 H7 h7 => ?_)
    · have hj' : j < (levL gs.length k).length := by
        have := (List.getElem?_eq_some_iff.mp hj).1
        rw [List.length_map] at this; exact this
      have ej : (levL gs.length k)[j]? = some (levL gs.length k)[j] := List.getElem?_eq_getElem hj'
      rw [List.getElem?_map, ej] at hj
      generalize (levL gs.length k)[j] = sm at ej hj
      cases hj
      have hsm := lev_ok gs.length k sm (List.mem_of_getElem? ej)
      have hfn := firstN_nn hsm
      have hfl := firstN_le hsm
      have hll := longer_len gs.length hsm
      refine ⟨_, rfl, fun σ8 H8 h8 => ?_⟩
      have h8 : Holds { h0 := H, fs := B2 :: [B] } σ8 H8 (GL gs n (levL gs.length k) (.dat 2 (.int (0 + (k : Int)))) (.own 2 ((((levL gs.length k).take j).flatMap (longerL gs.length)).map dI)) (.dat 2 (dI sm)) .any .any .any) := h8
      refine w_set (m := 3) (d := .int (firstN sm)) 6 (d_eq (d_if (p := !decide (sm = [])) (m := 3) (da := .int (sm.getLastD 0 + 1)) (db := .int 0) (t_eq (t_dne hu (d_x 5 rfl) (d_lst a_nil (by decide)) (cq_dI sm (n := 0)).eqOk (by decide)) (by rw [deq_nil]; congr 1; exact decide_eq_decide.mpr (by simp))) (fun hb => ?hlast) fun _ => d_i) ?hif) h8 (fun σ9 H9 e9 h9 => ?_) nd
      case hlast =>
        have hne : sm ≠ [] := fun z => by rw [decide_eq_true z] at hb; cases hb
        have hpos : 0 < sm.length := List.length_pos_iff.mpr hne
        refine d_add (d_ixL (d := .int (sm.getLastD 0)) (d_x 5 rfl) (d_neg d_i) ?_) d_i
        rw [List.length_map, ix_last hpos, Option.bind_some, List.getElem?_map, List.getLastD_eq_getLast?, List.getLast?_eq_getElem?, List.getElem?_eq_getElem (show sm.length - 1 < sm.length by omega)]; rfl
      case hif =>
        unfold firstN
        by_cases z : sm = []
        · rw [decide_eq_true z, if_pos z]; rfl
        · rw [decide_eq_false z, if_neg z]; rfl
      have h9 : Holds { h0 := H, fs := B2 :: [B] } σ9 H9 (GL gs n (levL gs.length k) (.dat 2 (.int (0 + (k : Int)))) (.own 2 ((((levL gs.length k).take j).flatMap (longerL gs.length)).map dI)) (.dat 2 (dI sm)) (.dat 2 (.int (firstN sm))) .any .any) := h9
      have hacc : (((levL gs.length k).take j).flatMap (longerL gs.length)).length ≤ 125 := by
        have h1 := flat_len (f := longerL gs.length) (n := 5) (xs := (levL gs.length k).take j) fun s hs => Nat.le_trans (longer_len gs.length (lev_ok gs.length k s (List.mem_of_mem_take hs))) hl5
        have h2 : ((levL gs.length k).take j).length ≤ 25 := by rw [List.length_take]; omega
        omega
      refine w_ext (ma := 3) (es := (longerL gs.length sm).map dI) 4 rfl (d_eq (d_lc (α := Nat) (me := 3) (enc := fun i : Nat => .int (firstN sm + (i : Int))) (ys := List.range ((gs.length : Int) - firstN sm).toNat) (tst := fun _ => true) (f := fun i : Nat => dI (sm ++ [firstN sm + (i : Int)])) [("place", 8)] (.nm 8) (i_range2 T.z_range (d_x 6 rfl) (d_z (j := (gs.length : Int)) (d_len T.z_len (d_x 0 rfl)) (by rw [List.length_map])) (by omega)) (fun s H' C cl fp => p_nm 8 nd) (fun i x Z' hx hz => ⟨_, rfl, fun s H' C cl fp => pts_nilD, fun _ s H' C cl fp => ?el⟩) (by rw [List.length_range]; omega) nd (bk_least_glasses (by decide +kernel))) ?hl) h9 (fun H10 h10 => ?_) (by rw [List.length_map, List.length_map]; omega)
      case el => exact d_eq (d_catS (d_x 5 rfl) (d_lst (a_cons (d_x 8 rfl) a_nil) one_sz) (scL_ints _) rfl (by rw [List.length_map, hsm.l]; exact sz_of (by simp; omega))) (by show D.lst _ = D.lst _; rw [List.map_append]; rfl)
      case hl =>
        refine (lc_all _ _).trans ?_
        unfold longerL
        rw [List.map_map]; rfl
      have et : (((levL gs.length k).take (j + 1)).flatMap (longerL gs.length)).map dI = (((levL gs.length k).take j).flatMap (longerL gs.length)).map dI ++ (longerL gs.length sm).map dI := by
        rw [take_succ_get ej, List.flatMap_append, List.map_append]
        congr 2
        rw [List.flatMap_cons, List.flatMap_nil, List.append_nil]
      refine wp_nil ?_
      have := h10.drops [5, 6]
      show Holds _ _ _ (GL gs n (levL gs.length k) (.dat 2 (.int (0 + (k : Int)))) (.own 2 ((((levL gs.length k).take (j + 1)).flatMap (longerL gs.length)).map dI)) .any .any .any .any)
      rw [et]
      exact this
    · have h7 := h7.thaw (i := 4) rfl (by decide)
      have ef : (((levL gs.length k).take ((levL gs.length k).map dI).length).flatMap (longerL gs.length)) = levL gs.length (k + 1) := by
        rw [List.length_map, List.take_length]; rfl
      rw [ef] at h7
      have h7 : Holds { h0 := H, fs := [B] } σ7 H7 (GL gs n (levL gs.length k) (.dat 2 (.int (0 + (k : Int)))) (.dat 2 (dL (levL gs.length (k + 1)))) .any .any .any .any) := h7
      refine w_set (d := dL (levL gs.length (k + 1))) 2 (d_x 4 rfl) h7 (fun σ8 H8 e8 h8 => ?_) nd
      have h8 : Holds { h0 := H, fs := [B] } σ8 H8 (GL gs n (levL gs.length (k + 1)) (.dat 2 (.int (0 + (k : Int)))) (.dat 2 (dL (levL gs.length (k + 1)))) .any .any .any .any) := h8
      refine w_forS (S := Unit) (m := 2) (xs := (levL gs.length (k + 1)).map dI) (.nm 5) (i_list (d_x 2 rfl)) (by decide) (p_nm 5 nd) (passes_of rfl) rfl h8 (fun _ => GL gs n (levL gs.length (k + 1)) (.dat 2 (.int (0 + (k : Int)))) (.dat 2 (dL (levL gs.length (k + 1)))) .any .any .any .any) (fun i _ => ∀ j sm, j < i → (levL gs.length (k + 1))[j]? = some sm → hitB gs n sm = false) () (fun j sm hj => by omega) (fun _ _ z => z) (fun j d _ B2 σ9 H9 hj is h9 => ?_) (fun _ σ9 H9 is h9 => ?_)
      · have hj' : j < (levL gs.length (k + 1)).length := by
          have := (List.getElem?_eq_some_iff.mp hj).1
          rw [List.length_map] at this; exact this
        have ej : (levL gs.length (k + 1))[j]? = some (levL gs.length (k + 1))[j] := List.getElem?_eq_getElem hj'
        rw [List.getElem?_map, ej] at hj
        generalize hgj : (levL gs.length (k + 1))[j] = sm at ej hj
        cases hj
        have hsm := lev_ok gs.length (k + 1) sm (List.mem_of_getElem? ej)
        have hGp := gl_pick hsp hsm hk3
        refine ⟨_, rfl, fun σ10 H10 h10 => ?_⟩
        have h10 : Holds { h0 := H, fs := B2 :: [B] } σ10 H10 (GL gs n (levL gs.length (k + 1)) (.dat 2 (.int (0 + (k : Int)))) (.dat 2 (dL (levL gs.length (k + 1)))) (.dat 2 (dI sm)) .any .any .any) := h10
        refine w_lc (α := Int) (me := 2) (enc := D.int) (ys := sm) (tst := fun _ => true) (f := fun p => .int (gs.getD p.toNat 0)) 7 [("place", 8)] (.nm 8) (i_list (d_x 5 rfl)) (fun s H' C cl fp => p_nm 8 nd) (fun i x Z' hx hz => ⟨_, rfl, fun s H' C cl fp => pts_nilD, fun _ s H' C cl fp => ?el2⟩) h10 (fun σ11 H11 e11 h11 => ?_) (by rw [hsm.l]; omega) nd (bk_least_glasses (by decide +kernel)) rfl
        case el2 =>
          obtain ⟨b1, b2⟩ := hsm.b x (List.mem_of_getElem? hx)
          refine d_sc (d_ixL (d := .int (gs.getD x.toNat 0)) (d_x 0 rfl) (d_x 8 rfl) ?_) rfl
          have e : x = ((x.toNat : Nat) : Int) := by omega
          have hlt : x.toNat < gs.length := by omega
          rw [List.length_map, show ixN gs.length x = some x.toNat by
            have := ix_nat (n := gs.length) hlt
            rw [← e] at this; exact this, Option.bind_some, List.getElem?_map, List.getElem?_eq_getElem hlt, List.getD_eq_getElem?_getD, List.getElem?_eq_getElem hlt]; rfl
        have ep : (sm.filter fun _ => true).map (fun p => D.int (gs.getD p.toNat 0)) = (pickS gs sm).map D.int := by
          rw [List.filter_eq_self.mpr fun _ _ => rfl, pickS, List.map_map]; rfl
        dsimp only [List.set] at h11
        rw [ep] at h11
        have h11 : Holds { h0 := H, fs := B2 :: [B] } σ11 H11 (GL gs n (levL gs.length (k + 1)) (.dat 2 (.int (0 + (k : Int)))) (.dat 2 (dL (levL gs.length (k + 1)))) (.dat 2 (dI sm)) .any (.dat 2 (dI (pickS gs sm))) .any) := h11
        have hgl := hGp.hi
        have hpl : n < (reachT (pickS gs sm) n n).length := by
          rw [(table_ok (fun _ _ _ _ h => nexts_pos h) (fun ks s => sortT_mem) n).1.len]; omega
        refine w_if (b := hitB gs n sm) (t_tbNe hu n (d_fnTb (mt := 1) T.d_reached (ok_reached T) hr (pickS gs sm, n) ⟨hGp, by dsimp only; omega⟩ (NoTu.nil rfl) okM.one (a_cons (d_x 7 rfl) (a_cons (d_eq (d_lst (a_cons (d_repS (xs := [.int 0]) (d_lst (a_cons d_i a_nil) one_sz) (d_len T.z_len (d_x 7 rfl)) rfl (by omega) (by rw [List.length_map]; omega) (by simp; exact sz_of (by omega))) a_nil) one_sz) ?hz) (a_cons (d_x 1 rfl) a_nil)))) (d_x 1 rfl) (at_rw hpl)) h11 (fun hb H12 e12 h12 => ?_) fun hb H12 e12 h12 => ?_
        case hz =>
          show D.lst [_] = D.lst [dI (zeros (pickS gs sm))]
          rw [rep_one]; unfold zeros dI; rw [List.map_replicate, List.length_map]; simp
        · have hf : (levL gs.length (k + 1)).find? (hitB gs n) = some sm := by
            rw [List.find?_eq_some_iff_getElem]
            refine ⟨hb, j, hj', hgj, fun j2 hj2 => ?_⟩
            rw [is j2 _ hj2 (List.getElem?_eq_getElem (by omega))]; rfl
          rw [findSome_range (f := fun k => (levL gs.length (k + 1)).find? (hitB gs n)) hf hbefore _ hi3] at q
          exact w_ret (d_x 5 rfl) h12 fun v H13 e13 r => q v H13 (h12.h0x.trans e13) (ret_new (by decide) h12.h0x r)
        · refine wp_nil (wp_nil ⟨(), fun j2 sm2 hj2 h2 => ?_, h12.drops [5, 7]⟩)
          rcases Nat.lt_or_ge j2 j with z | z
          · exact is j2 sm2 z h2
          · rw [show j2 = j by omega, ej] at h2
            cases h2
            exact hb
      · refine wp_nil ⟨k + 1, ⟨rfl, fun j hj => ?_⟩, h9.drops [3, 4]⟩
        rcases Nat.lt_or_ge j k with z | z
        · exact hbefore j z
        · rw [show j = k by omega, List.find?_eq_none]
          intro sm hsm
          obtain ⟨i, hi, rfl⟩ := List.mem_iff_getElem.mp hsm
          rw [is i _ (by rw [List.length_map]; exact hi) (List.getElem?_eq_getElem hi)]
          simp
  · obtain ⟨rfl, hall⟩ := is
    have hf : (List.range (min 3 gs.length)).findSome? (fun k => (levL gs.length (k + 1)).find? (hitB gs n)) = none := List.findSome?_eq_none_iff.mpr fun j hj => hall j (by
      rw [rng_len]; exact List.mem_range.mp hj)
    rw [hf] at q
    exact w_ret d_n h4 fun v H7 e7 r => q v H7 (h4.h0x.trans e7) (ret_new (by decide) h4.h0x r)
end
end R

set_option Elab.async false
set_option linter.all false
set_option maxRecDepth 100000
set_option maxHeartbeats 4000000
namespace R
open PySem L2 DL M
section
variable {P : Program} {w : World} {K : PySem.W.Frag} {mg : Str → Option Value} {base : Heap}
theorem mul_l {i j : Int} (h1 : -(2 ^ 64) < i) (h2 : i < 2 ^ 64) : CMul i j := .inl ⟨h1, h2⟩
theorem mul_r {i j : Int} (h1 : -(2 ^ 64) < j) (h2 : j < 2 ^ 64) : CMul i j := .inr ⟨h1, h2⟩
abbrev sp_cell_at : Sp := Pur (fun a : List Int × Nat => [dI a.1, .int (a.2 : Int)]) (fun _ => True) fun a => .int (cellAt a.1 a.2)
theorem ok_cell_at (T : Txt K mg) : FnOk P w K mg base CX0 1 T.d__law_cell_at.f T.d__law_cell_at.fd ["_law_script", "_law_k"] sp_cell_at := by
  refine Fun.pur T.d__law_cell_at.F sc__law_cell_at (fun _ => rfl) (by decide) fun cdv A outer s H σ E Q a hr hp h q => ?_
  obtain ⟨sc, k⟩ := a
  refine w_if (t_lt (d_x 1 rfl) (d_len T.z_len (d_x 0 rfl))) h (fun hb H1 e1 h1 => ?_) fun hb H1 e1 h1 => ?_
  · have hk : k < sc.length := by
      have := of_decide_eq_true hb
      rw [List.length_map] at this
      exact Int.ofNat_lt.mp this
    refine w_ret (d_ixL (d_x 0 rfl) (d_x 1 rfl) (ix_get (map_int_get hk))) h1 fun v H2 e2 r => q v H2 (e1.trans e2) ?_
    cases r
    have e : cellAt sc k = sc[k] := by unfold cellAt; rw [List.getD_eq_getElem?_getD, List.getElem?_eq_getElem hk]; rfl
    dsimp only
    rw [e]; exact .int _
  · have hk : ¬ k < sc.length := by
      have := of_decide_eq_false hb
      rw [List.length_map] at this
      exact fun z => this (Int.ofNat_lt.mpr z)
    refine w_end (w_ret d_i h1 fun v H2 e2 r => q v H2 (e1.trans e2) ?_)
    cases r
    have e : cellAt sc k = 0 := by unfold cellAt; rw [List.getD_eq_getElem?_getD, List.getElem?_eq_none (by omega)]; rfl
    dsimp only
    rw [e]; exact .int _
abbrev sp_draw : Sp := Pur (fun a : Int × Nat × Int => [.int a.1, .int (a.2.1 : Int), .int a.2.2]) (fun a => 0 < a.2.2) fun a => .int (draw a.1 a.2.1 a.2.2)
theorem ok_draw (T : Txt K mg) : FnOk P w K mg base CX0 1 T.d__law_draw.f T.d__law_draw.fd ["_law_cell", "_law_k", "_law_many"] sp_draw := by
  refine Fun.pur T.d__law_draw.F sc__law_draw (fun _ => rfl) (by decide) fun cdv A outer s H σ E Q a hr hp h q => ?_
  obtain ⟨cell, k, many⟩ := a
  have nd := sc__law_draw.nd
  refine w_set (d := .tup (primesL.map .int)) (m := 3) 3 (d_tup (a_cons d_i (a_cons d_i (a_cons d_i (a_cons d_i (a_cons d_i (a_cons d_i (a_cons d_i (a_cons d_i (a_cons d_i (a_cons d_i (a_cons d_i (a_cons d_i (a_cons d_i (a_cons d_i (a_cons d_i (a_cons d_i a_nil)))))))))))))))) (show 16 ≤ sizeLine by decide)) h (fun σ1 H1 e1 h1 => ?_) nd
  refine w_ret (d_mod (d_mod (d_add (d_mul (d_x 0 rfl) d_i (mul_r (by decide) (by decide))) (d_mul (d_x 1 rfl) d_i (mul_r (by decide) (by decide)))) (d_ixT (d := .int (pr k)) (d_x 3 rfl) (d_mod (d_x 1 rfl) d_i (by decide)) ?_) (pr_pos k)) (d_x 2 rfl) hp) h1 fun v H2 e2 r => q v H2 (e1.trans e2) (ret_new (by decide) e1 r)
  have e : ((k : Int) % 16) = ((k % 16 : Nat) : Int) := by omega
  dsimp only
  rw [e]
  exact ix_get (pr_get k)
abbrev sp_value : Sp := Pur (fun a : Int × Nat => [.int a.1, .int (a.2 : Int)]) (fun a => a.2 ≤ 1000000) fun a => .int (value a.1 a.2)
theorem ok_value (T : Txt K mg) : FnOk P w K mg base CX0 2 T.d__law_value.f T.d__law_value.fd ["_law_cell", "_law_turn"] sp_value := by
  refine Fun.pur T.d__law_value.F sc__law_value (fun _ => rfl) (by decide) fun cdv A outer s H σ E Q a hr hp h q => ?_
  obtain ⟨cell, turn⟩ := a
  dsimp only at hp
  have nd := sc__law_value.nd
  have c18 : CPow 10 18 := ⟨by decide, by decide, by decide⟩
  have c40 : CPow 10 40 := ⟨by decide, by decide, by decide⟩
  refine w_if (t_ge (d_x 0 rfl) (d_pow d_i d_i c18)) h (fun hb H1 e1 h1 => ?_) fun hb H1 e1 h1 => ?_
  · have hc : (10 : Int) ^ 18 ≤ cell := of_decide_eq_true hb
    refine w_ret (d_shr (d_mod (d_sub (d_x 0 rfl) (d_pow d_i d_i c18)) (d_pow d_i d_i c40) (show (0 : Int) < 10 ^ (Int.toNat 40) by decide)) (d_mul d_i (d_x 1 rfl) (mul_l (by decide) (by decide))) (by omega)) h1 fun v H2 e2 r => q v H2 (e1.trans e2) ?_
    have e : value cell turn = (cell - 10 ^ 18) % 10 ^ 40 / 2 ^ (3 * turn) := by unfold value; rw [if_pos hc]
    dsimp only
    rw [e]
    have e2 : ((3 : Int) * (turn : Int)).toNat = 3 * turn := by omega
    have r' := ret_new (by decide) e1 r
    rw [e2] at r'
    exact r'
  · have hc : ¬ (10 : Int) ^ 18 ≤ cell := of_decide_eq_false hb
    refine w_end ?_
    refine w_set (d := .int (cell % 10 ^ 18)) 2 (d_mod (d_x 0 rfl) (d_pow d_i d_i c18) (show (0 : Int) < 10 ^ (Int.toNat 18) by decide)) h1 (fun σ2 H2 e2 h2 => ?_) nd
    generalize hrest : cell % 10 ^ 18 = rest at h2
    have hr0 : 0 ≤ rest ∧ rest < 10 ^ 18 := by rw [← hrest]; exact ⟨Int.emod_nonneg _ (by decide), Int.emod_lt_of_pos _ (by decide)⟩
    have et : ∀ n : Nat, ((turn : Int) % (n : Int)) = ((turn % n : Nat) : Int) := fun n => by omega
    refine w_set (d := .int (draw ((rest + 977 * (turn : Int)) * (rest + 31 * (turn : Int) + 5)) (turn % 9 + 1) 999983)) 3 (d_fn T.d__law_draw (ok_draw T) hr pass0 (Pur.gives ((rest + 977 * (turn : Int)) * (rest + 31 * (turn : Int) + 5), turn % 9 + 1, 999983) (show (0 : Int) < 999983 by decide))
      (a_cons (d_mul (d_add (d_x 2 rfl) (d_mul d_i (d_x 1 rfl) (mul_l (by decide) (by decide)))) (d_add (d_add (d_x 2 rfl) (d_mul d_i (d_x 1 rfl) (mul_l (by decide) (by decide)))) d_i) (mul_l (by omega) (by omega)))
        (a_cons (d_eq (d_add (d_mod (d_x 1 rfl) d_i (by decide)) d_i) (by first | rfl | (congr 1; omega))) (a_cons d_i a_nil)))) h2 (fun σ3 H3 e3 h3 => ?_) nd
    refine w_ret (d_add (d_mul (d_x 3 rfl) d_i (mul_r (by decide) (by decide))) (d_fn T.d__law_draw (ok_draw T) hr pass0 (Pur.gives ((rest + 31 * (turn : Int)) * (rest + 7) + 977 * (turn : Int), turn % 7 + 2, 1000003) (show (0 : Int) < 1000003 by decide))
      (a_cons (d_add (d_mul (d_add (d_x 2 rfl) (d_mul d_i (d_x 1 rfl) (mul_l (by decide) (by decide)))) (d_add (d_x 2 rfl) d_i) (mul_l (by omega) (by omega))) (d_mul d_i (d_x 1 rfl) (mul_l (by decide) (by decide))))
        (a_cons (d_eq (d_add (d_mod (d_x 1 rfl) d_i (by decide)) d_i) (by first | rfl | (congr 1; omega))) (a_cons d_i a_nil))))) h3 fun v H4 e4 r => q v H4 (e1.trans (e2.trans (e3.trans e4))) ?_
    have e : value cell turn = draw ((rest + 977 * (turn : Int)) * (rest + 31 * (turn : Int) + 5)) (turn % 9 + 1) 999983 * 1000003 + draw ((rest + 31 * (turn : Int)) * (rest + 7) + 977 * (turn : Int)) (turn % 7 + 2) 1000003 := by
      unfold value; rw [if_neg hc, hrest]
    dsimp only
    rw [e]
    exact ret_new (by decide) (e1.trans (e2.trans e3)) r
abbrev sp_lglasses : Sp := Pur (fun a : List Int × Nat => [dI a.1, .int (a.2 : Int)]) (fun _ => True) fun a => dI (lglasses a.1 a.2)
theorem ok_lglasses (T : Txt K mg) : FnOk P w K mg base CX0 3 T.d__law_glasses.f T.d__law_glasses.fd ["_law_script", "_law_by"] sp_lglasses := by
  refine Fun.pur T.d__law_glasses.F sc__law_glasses (fun _ => rfl) (by decide) fun cdv A outer s H σ E Q a hr hp h q => ?_
  obtain ⟨sc, by_⟩ := a
  have nd := sc__law_glasses.nd
  refine w_par2 ⟨false, 2, 3, .int (value (cellAt sc by_) 3)⟩ ⟨true, 3, 3, .lst []⟩ ⟨fun Z hz => d_fn T.d__law_value (ok_value T) hr pass0 (Pur.gives (cellAt sc by_, 3) (show 3 ≤ 1000000 by decide)) (a_cons (d_fn T.d__law_cell_at (ok_cell_at T) hr pass0 (Pur.gives (sc, by_) trivial) (a_cons (d_x 0 rfl) (a_cons (d_x 1 rfl) a_nil))) (a_cons d_i a_nil)),
    fun Z hz => d_lst a_nil (by decide), trivial⟩ h (fun σ1 H1 e1 h1 => ?_) nd
  generalize hv : value (cellAt sc by_) 3 = v0 at h1
  have hm := many_le v0
  have en : ((v0 % 5).toNat : Int) = v0 % 5 := Int.toNat_of_nonneg (Int.emod_nonneg _ (by decide))
  refine w_set (d := .int (many v0)) 4 (d_ixT (ds := manyL.map D.int) (d_tup (a_cons d_i (a_cons d_i (a_cons d_i (a_cons d_i (a_cons d_i a_nil))))) (show 5 ≤ sizeLine by decide)) (d_mod (d_x 2 rfl) d_i (by decide)) (by rw [← en]; exact ix_get (many_get v0))) h1 (fun σ2 H2 e2 h2 => ?_) nd
  refine w_set (d := .int (if many v0 < 3 then 12 else 6)) 5 (d_eq (d_if (t_lt (d_x 4 rfl) d_i) (fun _ => d_i) fun _ => d_i) (by by_cases h : many v0 < 3 <;> simp [h])) h2 (fun σ3 H3 e3 h3 => ?_) nd
  have hw : (0 : Int) < (if many v0 < 3 then 12 else 6) ∧ (if many v0 < 3 then (12 : Int) else 6) < 1073741824 := by split <;> decide
  generalize hwd : (if many v0 < 3 then (12 : Int) else 6) = wide at h3 hw
  refine w_forS (S := Nat) (xs := rng 0 (many v0).toNat) (.nm 6) (i_range1 T.z_range (d_x 4 rfl) (by omega) (by omega)) (by decide) (p_nm 6 nd) PassesOwn.never rfl h3
    (fun k => [.dat 1 (dI sc), .dat 1 (.int (by_ : Int)), .dat 2 (.int v0), .own 2 (((List.range k).map fun k => 1 + value (cellAt sc (by_ + k) + 37 * (k : Int)) (k + 4) / 3 % wide).map D.int), .dat 2 (.int (many v0)), .dat 2 (.int wide), .any, .any])
    (fun i k => k = i) 0 rfl (fun Z' H' h => h) (fun i d k B σ4 H4 hd is h4 => ?_) fun k σ4 H4 is h4 => ?_
  · subst is
    obtain ⟨hk, rfl⟩ := rng_get hd
    rw [Int.zero_add]
    refine ⟨_, rfl, fun σ5 H5 h5 => ?_⟩
    dsimp only [List.set] at h5
    refine w_set 7 (d_fn T.d__law_value (ok_value T) hr pass0 (Pur.gives (cellAt sc (by_ + k) + 37 * (k : Int), k + 4) (by dsimp only; omega))
      (a_cons (d_add (d_fn T.d__law_cell_at (ok_cell_at T) hr pass0 (Pur.gives (sc, by_ + k) trivial) (a_cons (d_x 0 rfl) (a_cons (d_z (d_add (d_x 1 rfl) (d_x 6 rfl))) a_nil))) (d_mul d_i (d_x 6 rfl) (mul_l (by decide) (by decide)))) (a_cons (d_z (d_add (d_x 6 rfl) d_i)) a_nil))) h5 (fun σ6 H6 e6 h6 => ?_) nd
    dsimp only [List.set] at h6
    refine w_app 3 rfl (d_add d_i (d_mod (d_fdiv (d_x 7 rfl) d_i ⟨by decide, by decide⟩) (d_x 5 rfl) hw.1)) h6 (fun H7 h7 => wp_nil ⟨k + 1, rfl, ?_⟩) (by rw [List.length_map, List.length_map, List.length_range]; omega)
    have h8 := (h7.drop 6).drop 7
    dsimp only [List.set] at h8
    rw [List.range_succ, List.map_append, List.map_append]
    exact h8
  · subst is
    rw [rng_len] at h4
    refine w_retO 3 rfl h4 rfl fun v r => q v H4 h4.h0x ?_
    dsimp only
    unfold lglasses
    rw [hv, hwd]
    exact r
abbrev sp_flip : Sp := Pur (fun a : List Int × List Int × List Int => [dI a.1, dI a.2.1, dI a.2.2]) (fun a => a.1.length = a.2.1.length ∧ ∀ g ∈ a.2.2, 0 ≤ g ∧ g < (a.1.length : Int)) fun a => dI (lflip a.1 a.2.1 a.2.2)
theorem flip_len (gs : List Int) : ∀ (deed ss : List Int), (lflip gs ss deed).length = ss.length
  | [], _ => rfl
  | g :: deed, ss => by
    show (lflip gs (lflip1 gs ss g) deed).length = _
    rw [flip_len gs deed]; unfold lflip1; rw [List.length_set]
theorem flip_snoc (gs ss deed : List Int) (g : Int) : lflip gs ss (deed ++ [g]) = lflip1 gs (lflip gs ss deed) g := by unfold lflip; rw [List.foldl_append]; rfl
theorem ok_flip (T : Txt K mg) : FnOk P w K mg base CX0 1 T.d__law_flip.f T.d__law_flip.fd ["_law_glasses_here", "_law_stand", "_law_deed"] sp_flip := by
  refine Fun.pur T.d__law_flip.F sc__law_flip (fun _ => rfl) (by decide) fun cdv A outer s H σ E Q a hr hp h q => ?_
  obtain ⟨gs, ss, deed⟩ := a
  obtain ⟨hl, hd⟩ := hp
  dsimp only at hl hd
  have nd := sc__law_flip.nd
  refine w_own 3 (d_listS T.z_list (d_x 1 rfl) (scL_ints ss)) h (fun σ1 H1 e1 h1 => ?_) nd
  refine w_forS (S := Nat) (.nm 4) (i_list (m := 1) (d_x 2 rfl)) (by decide) (p_nm 4 nd) PassesOwn.never rfl h1
    (fun k => [.dat 1 (dI gs), .dat 1 (dI ss), .dat 1 (dI deed), .own 2 ((lflip gs ss (deed.take k)).map D.int), .any])
    (fun i k => k = i) 0 rfl (fun Z' H' h => h) (fun i d k B σ4 H4 hd' is h4 => ?_) fun k σ4 H4 is h4 => ?_
  · subst is
    have hk : k < deed.length := by
      have := (List.getElem?_eq_some_iff.mp hd').1
      rw [List.length_map] at this; exact this
    rw [map_int_get hk] at hd'
    cases hd'
    refine ⟨_, rfl, fun σ5 H5 h5 => ?_⟩
    dsimp only [List.set] at h5
    obtain ⟨g0, g1⟩ := hd deed[k] (List.getElem_mem hk)
    have eg : deed[k] = ((deed[k].toNat : Nat) : Int) := by omega
    have tk : deed.take (k + 1) = deed.take k ++ [deed[k]] := (List.take_succ_eq_append_getElem hk)
    generalize hcur : lflip gs ss (deed.take k) = cur at h5
    have hcl : cur.length = gs.length := by rw [← hcur, flip_len, hl]
    generalize hg : deed[k] = g at h5 g0 g1 eg tk
    generalize hn : g.toNat = n at eg
    have hn1 : n < gs.length := by omega
    have hn2 : n < cur.length := by omega
    refine w_seti 3 (j := n) rfl (d_sub (d_ixL (d := .int gs[n]) (d_x 0 rfl) (d_x 4 rfl) (by rw [eg]; exact ix_get (map_int_get hn1))) (d_ixL (d := .int cur[n]) (d_x 3 rfl) (d_x 4 rfl) (by rw [eg]; exact ix_get (map_int_get hn2)))) (d_x 4 rfl)
      (by rw [eg]; exact ix_nat (by rw [List.length_map]; exact hn2)) h5 (fun H6 h6 => wp_nil ⟨k + 1, rfl, ?_⟩)
    have h8 := h6.drop 4
    dsimp only [List.set] at h8
    rw [tk, flip_snoc, hcur]
    have e2 : lflip1 gs cur g = cur.set n (gs[n] - cur[n]) := by
      unfold lflip1
      rw [hn, List.getD_eq_getElem?_getD, List.getD_eq_getElem?_getD, List.getElem?_eq_getElem hn1, List.getElem?_eq_getElem hn2]; rfl
    rw [e2, List.map_set]
    exact h8
  · subst is
    rw [List.length_map, List.take_length] at h4
    exact w_retO 3 rfl h4 rfl fun v r => q v H4 h4.h0x r
abbrev sp_lfall : Sp := Pur (fun ss : List Int => [dI ss]) (fun ss => ss.length ≤ 100000) fun ss => .tup [.int (lfar ss), dI (lthere ss)]
theorem ok_lfall (T : Txt K mg) : FnOk P w K mg base CX0 1 T.d__law_fall.f T.d__law_fall.fd ["_law_stand"] sp_lfall := by
  refine Fun.pur T.d__law_fall.F sc__law_fall (fun _ => rfl) (by decide) fun cdv A outer s H σ E Q ss hr hp h q => ?_
  have nd := sc__law_fall.nd
  have hp' : ss.length ≤ 1000000 := by omega
  have hfl : (ss.filter fun x => decide (0 < x)).length ≤ ss.length := List.length_filter_le _ _
  refine w_set (d := .int (lfar ss)) 1 (d_min (ns := (ss.filter fun x => decide (0 < x)) ++ [99]) T.z_min (d_eq (d_catS (xs := (ss.filter fun x => decide (0 < x)).map D.int) (ys := [.int 99]) (d_lc (me := 2) (enc := D.int) (ys := ss) (tst := fun x => decide (0 < x)) (f := D.int) [("_law_sand", 2)] (.nm 2) (i_list (d_x 0 rfl)) (fun s H' C cl fp => p_nm 2 nd)
    (fun i y Z' hy hz => ⟨_, rfl, fun s H' C cl fp => pts_oneD (t_gt (d_x 2 rfl) d_i), fun _ s H' C cl fp => d_sc (d_x 2 rfl) rfl⟩) hp' nd (bk__law_fall (by decide +kernel))) (d_lst (a_cons d_i a_nil) one_sz) (scL_ints _) rfl (by rw [List.length_map]; exact sz_of (by simp only [List.length_cons, List.length_nil]; omega))) (by unfold dI; rw [List.map_append]; rfl)) (by simp)) h (fun σ1 H1 e1 h1 => ?_) nd
  refine w_ret (d_tup (a_cons (d_x 1 rfl) (a_cons (d_lc (me := 2) (enc := D.int) (ys := ss) (tst := fun _ => true) (f := fun x => .int (max 0 (x - lfar ss))) [("_law_sand", 2)] (.nm 2) (i_list (d_x 0 rfl)) (fun s H' C cl fp => p_nm 2 nd)
    (fun i y Z' hy hz => ⟨_, rfl, fun s H' C cl fp => pts_nilD, fun _ s H' C cl fp => d_w (d_max2 T.z_max d_i (d_sub (d_x 2 rfl) (d_x 1 rfl))) (by decide)⟩) hp' nd (bk__law_fall (by decide +kernel))) a_nil)) two_sz) h1 fun v H4 e4 r => q v H4 (e1.trans e4) ?_
  unfold lthere
  rw [← map_str, ← lc_all]
  exact ret_new (by decide) e1 r
end
end R

set_option Elab.async false
set_option linter.all false
set_option maxRecDepth 100000
set_option maxHeartbeats 4000000
namespace R
open PySem L2 DL M
section
variable {P : Program} {w : World} {K : PySem.W.Frag} {mg : Str → Option Value} {base : Heap}
theorem rng_nat (n : Nat) : rng 0 n = (List.range n).map fun (k : Nat) => D.int (k : Int) := by
  unfold rng
  refine List.map_congr_left fun k _ => ?_
  rw [Int.zero_add]
theorem deedOf_ok {n number : Nat} : ∀ g ∈ deedOf n number, 0 ≤ g ∧ g < (n : Int) := fun g hg => by
  obtain ⟨k, hk, rfl⟩ := List.mem_map.mp hg
  have := List.mem_range.mp (List.mem_filter.mp hk).1
  omega
theorem lnx_len (gs ss : List Int) : (lnx gs ss).length ≤ 2 ^ gs.length := by
  unfold lnx
  refine Nat.le_trans (List.length_filter_le _ _) ?_
  rw [List.length_map, List.length_range]; exact Nat.le_refl _
abbrev sp_lnexts : Sp := Pur (fun a : List Int × List Int => [dI a.1, dI a.2]) (fun a => a.1.length = a.2.length ∧ a.1.length ≤ 10) fun a => .lst ((lnexts a.1 a.2).map dN)
theorem ok_lnexts (T : Txt K mg) : FnOk P w K mg base CX0 2 T.d__law_nexts.f T.d__law_nexts.fd ["_law_glasses_here", "_law_stand"] sp_lnexts := by
  refine Fun.pur T.d__law_nexts.F sc__law_nexts (fun _ => rfl) (by decide) fun cdv A outer s H σ E Q a hr hp h q => ?_
  obtain ⟨gs, ss⟩ := a
  obtain ⟨hl, h10⟩ := hp
  dsimp only at hl h10
  have nd := sc__law_nexts.nd
  have hpw : 2 ^ gs.length ≤ 1024 := Nat.pow_le_pow_right (by decide) h10
  have hlim := lnx_len gs ss
  have epw : ((1 : Int) * 2 ^ ((gs.length : Int)).toNat) = ((2 ^ gs.length : Nat) : Int) := by
    rw [Int.one_mul, Int.toNat_natCast]; exact (Int.natCast_pow 2 gs.length).symm
  have hlx : lnx gs ss = ((List.range (2 ^ gs.length)).map (nx1 gs ss)).filter fun x => decide (x.2.1 < 99) := rfl
  generalize 2 ^ gs.length = N at hpw epw hlx hlim
  refine w_own 2 (d_lst a_nil (by decide)) h (fun σ1 H1 e1 h1 => ?_) nd
  refine w_forS (S := Nat) (xs := rng 0 N) (.nm 3) (i_range1 (n := (N : Int)) T.z_range (d_z (d_shl d_i (d_len T.z_len (d_x 0 rfl)) ⟨by omega, by rw [List.length_map]; dsimp only; omega, by decide⟩) (by rw [List.length_map]; exact epw)) (by omega) (by omega)) (by decide) (p_nm 3 nd) PassesOwn.never rfl h1
    (fun k => [.dat 1 (dI gs), .dat 1 (dI ss), .own 2 ((((List.range k).map (nx1 gs ss)).filter fun x => decide (x.2.1 < 99)).map dN), .any, .any, .any, .any, .any])
    (fun i k => k = i) 0 rfl (fun Z' H' h => h) (fun i d k B σ4 H4 hd is h4 => ?_) fun k σ4 H4 is h4 => ?_
  · subst is
    obtain ⟨hk, rfl⟩ := rng_get hd
    rw [Int.zero_add]
    refine ⟨_, rfl, fun σ5 H5 h5 => ?_⟩
    dsimp only [List.set] at h5
    refine w_lc (me := 2) (enc := fun k : Nat => D.int (k : Int)) (ys := List.range gs.length) (tst := bitIn k) (f := fun k => .int (k : Int)) 4 [("_law_at", 7)] (.nm 7)
      (by rw [← rng_nat]; exact i_range1 (n := (gs.length : Int)) T.z_range (d_z (d_len T.z_len (d_x 0 rfl)) (by rw [List.length_map])) (by omega) (by omega)) (fun s H' C cl fp => p_nm 7 nd)
      (fun i y Z' hy hz => ⟨_, rfl, fun s H' C cl fp => pts_oneD (t_eq (t_eqi (d_bitand (d_shr (d_x 3 rfl) (d_x 7 rfl) (Int.natCast_nonneg y)) d_i) d_i) rfl), fun _ s H' C cl fp => d_sc (d_x 7 rfl) rfl⟩) h5 (fun σ6 H6 e6 h6 => ?_) (by rw [List.length_range]; omega) nd (bk__law_nexts (by decide +kernel)) rfl
    have ed : D.lst (((List.range gs.length).filter (bitIn k)).map fun k : Nat => .int (k : Int)) = dI (deedOf gs.length k) := by unfold deedOf; rw [← map_str]
    rw [ed] at h6
    have hnx : nx1 gs ss k = (deedOf gs.length k, lfar (lflip gs ss (deedOf gs.length k)), lthere (lflip gs ss (deedOf gs.length k))) := rfl
    have hok : ∀ g ∈ deedOf gs.length k, 0 ≤ g ∧ g < (gs.length : Int) := deedOf_ok
    have hfl : (lflip gs ss (deedOf gs.length k)).length ≤ 100000 := by rw [flip_len]; omega
    generalize deedOf gs.length k = deed at h6 hnx hok hfl
    dsimp only [List.set] at h6
    refine w_unpack (.tp [.nm 5, .nm 6]) (p_tp (q_cons (p_nm 5 nd) (q_cons (p_nm 6 nd) q_nil))) (d_fn T.d__law_fall (ok_lfall T) hr pass0 (Pur.gives (lflip gs ss deed) hfl)
      (a_cons (d_fn T.d__law_flip (ok_flip T) hr pass0 (Pur.gives (gs, ss, deed) ⟨hl, hok⟩) (a_cons (d_x 0 rfl) (a_cons (d_x 1 rfl) (a_cons (d_x 4 rfl) a_nil)))) a_nil)) rfl h6 fun σ7 H7 e7 h7 => ?_
    dsimp only [List.set] at h7
    have er : (((List.range (k + 1)).map (nx1 gs ss)).filter fun x => decide (x.2.1 < 99)) = (((List.range k).map (nx1 gs ss)).filter fun x => decide (x.2.1 < 99)) ++ (if lfar (lflip gs ss deed) < 99 then [nx1 gs ss k] else []) := by
      rw [List.range_succ, List.map_append, List.filter_append]
      congr 1
      show ([nx1 gs ss k].filter fun x => decide (x.2.1 < 99)) = _
      by_cases hz : lfar (lflip gs ss deed) < 99
      · rw [if_pos hz, List.filter_cons_of_pos (by rw [hnx]; exact decide_eq_true hz)]; rfl
      · rw [if_neg hz, List.filter_cons_of_neg (by rw [hnx]; exact fun z => hz (of_decide_eq_true z))]; rfl
    refine w_if (t_lt (d_x 5 rfl) d_i) h7 (fun hb H8 e8 h8 => ?_) fun hb H8 e8 h8 => ?_
    · have hb' := of_decide_eq_true hb
      rw [if_pos hb'] at er
      refine w_app 2 rfl (d_tup (a_cons (d_x 4 rfl) (a_cons (d_x 5 rfl) (a_cons (d_x 6 rfl) a_nil))) (show 3 ≤ sizeLine by decide)) h8 (fun H9 h9 => w_end ?_) (by
        have h1 := List.length_filter_le (fun x : Nx => decide (x.2.1 < 99)) ((List.range k).map (nx1 gs ss))
        rw [List.length_map, List.length_range] at h1
        rw [List.length_map]; omega)
      refine wp_nil ⟨k + 1, rfl, ?_⟩
      have h10 := (((h9.drop 3).drop 4).drop 5).drop 6
      dsimp only [List.set] at h10
      rw [er, List.map_append, hnx]
      exact h10
    · have hb' := of_decide_eq_false hb
      rw [if_neg hb', List.append_nil] at er
      refine w_end ?_
      refine wp_nil ⟨k + 1, rfl, ?_⟩
      have h10 := (((h8.drop 3).drop 4).drop 5).drop 6
      dsimp only [List.set] at h10
      rw [er]
      exact h10
  · subst is
    rw [rng_len] at h4
    rw [← hlx] at h4
    refine w_ret (d_sorted hr.units T.z_sorted (d_x 2 rfl) (srtb_dN _)) (h4.thaw (i := 2) rfl (by decide)) fun v H5 e5 r => q v H5 (h4.h0x.trans e5) ?_
    rw [sort_dN] at r
    exact ret_new (by decide) h4.h0x r
end
end R

set_option linter.all false
set_option maxRecDepth 100000
/-! M7: the plan found, from its end; stands sorted. -/
namespace M
open PySem DL
def sortI (xs : List (List Int)) : List (List Int) := xs.mergeSort fun a b => leD (dI a) (dI b)
theorem sortI_mem {xs : List (List Int)} {x : List Int} : x ∈ sortI xs ↔ x ∈ xs := List.mem_mergeSort
def intsOf : List D → List Int
  | .int i :: r => i :: intsOf r
  | _ => []
theorem intsOf_map (ns : List Int) : intsOf (ns.map D.int) = ns := by
  induction ns with
  | nil => rfl
  | cons n ns ih => show n :: intsOf (ns.map D.int) = _; rw [ih]
def ent : D → List Int × Nat × List Int
  | .tup [.lst a, .int k, .tup s] => (intsOf a, k.toNat, intsOf s)
  | _ => ([], 0, [])
theorem ent_dE (deed : List Int) (k : Nat) (st : List Int) : ent (dE deed k st) = (deed, k, st) := by
  show (intsOf (deed.map D.int), ((k : Int)).toNat, intsOf (st.map D.int)) = _
  rw [intsOf_map, intsOf_map, Int.toNat_natCast]
/-- the deeds from the last one back -/
def back (tb : List Row) : Nat → Nat → List Int → List (List Int)
  | 0, _, _ => []
  | f + 1, j, key => if j = 0 then [] else match rowGet (rw_ tb j) key with
    | none => []
    | some d => (ent d).1 :: back tb f (ent d).2.1 (ent d).2.2
section
variable {nx : List Int → List Nx} {z : List Int} {most : Nat} {tb : List Row}
/-- the entry of a stand -/
theorem entry_of (I : Inv nx z most tb) {j : Nat} {key : List Int} (h : key ∈ keysOf (rw_ tb j)) (hj : j ≠ 0) : ∃ i st x, rowGet (rw_ tb j) key = some (dE x.1 i st) ∧ x ∈ nx st ∧ x.2.2 = key ∧ i + x.2.1.toNat = j ∧ i < j ∧ st ∈ keysOf (rw_ tb i) := by
  obtain ⟨d, hd⟩ := rowGet_of h
  have hm := rowGet_some hd
  rcases I.ent j _ hm with ⟨q, _⟩ | ⟨i, st, x, q1, q2, q3, q4, q5⟩
  · exact absurd q hj
  · have e1 : key = x.2.2 := congrArg Prod.fst q1
    have e2 : d = dE x.1 i st := congrArg Prod.snd q1
    exact ⟨i, st, x, by rw [hd, e2], q2, e1.symm, q3, by omega, q5⟩
theorem back_zero (tb : List Row) (f : Nat) (key : List Int) : back tb f 0 key = [] := by
  cases f with
  | zero => rfl
  | succ f => unfold back; rw [if_pos rfl]
theorem back_fuel (I : Inv nx z most tb) : ∀ (f g j : Nat) (key : List Int), j ≤ f → j ≤ g → key ∈ keysOf (rw_ tb j) → back tb f j key = back tb g j key
  | f, g, 0, key, _, _, _ => by rw [back_zero, back_zero]
  | 0, _, j + 1, _, h, _, _ => absurd h (by omega)
  | _, 0, j + 1, _, _, h, _ => absurd h (by omega)
  | f + 1, g + 1, j + 1, key, h1, h2, hk => by
    obtain ⟨i, st, x, e1, e2, e3, e4, e5, e6⟩ := entry_of I hk (Nat.succ_ne_zero j)
    unfold back
    rw [if_neg (Nat.succ_ne_zero j), if_neg (Nat.succ_ne_zero j), e1]
    dsimp only
    rw [ent_dE]
    dsimp only
    rw [back_fuel I f g i st (by omega) (by omega) e6]
theorem back_step (I : Inv nx z most tb) {j : Nat} {key : List Int} (h : key ∈ keysOf (rw_ tb j)) (hj : j ≠ 0) : ∃ i st x, rowGet (rw_ tb j) key = some (dE x.1 i st) ∧ x ∈ nx st ∧ x.2.2 = key ∧ i + x.2.1.toNat = j ∧ i < j ∧ st ∈ keysOf (rw_ tb i) ∧ back tb j j key = x.1 :: back tb i i st := by
  obtain ⟨i, st, x, e1, e2, e3, e4, e5, e6⟩ := entry_of I h hj
  refine ⟨i, st, x, e1, e2, e3, e4, e5, e6, ?_⟩
  obtain ⟨j', rfl⟩ := Nat.exists_eq_succ_of_ne_zero hj
  conv => lhs; unfold back
  rw [if_neg hj, e1]
  dsimp only
  rw [ent_dE]
  dsimp only
  rw [back_fuel I j' i i st (by omega) (Nat.le_refl _) e6]
end
end M

set_option Elab.async false
set_option linter.all false
set_option maxRecDepth 100000
set_option maxHeartbeats 4000000
namespace M
open PySem L2 DL
/-- the law's own table -/
theorem lrch_st {gs : List Int} (hg : ∀ g ∈ gs, 1 ≤ g ∧ g ≤ 12) {j : Nat} {key : List Int} (h : Rch (lnexts gs) (zeros gs) j key) : St gs key := by
  induction h with
  | zero => exact zeros_st hg
  | step h hx ih => exact (next_spec hg ih hx).2.2.2.2.2
theorem lpos {gs : List Int} (hg : ∀ g ∈ gs, 1 ≤ g ∧ g ≤ 12) : ∀ j st, Rch (lnexts gs) (zeros gs) j st → ∀ x ∈ lnexts gs st, 1 ≤ x.2.1 := fun _ _ h _ hx => (next_spec hg (lrch_st hg h) hx).2.2.2.1
abbrev lreachT (gs : List Int) (most k : Nat) : List Row := table id (lnexts gs) (zeros gs) most k
theorem linv_st {gs : List Int} (hg : Gl gs) {most : Nat} {rows : List Row} (I : Inv (lnexts gs) (zeros gs) most rows) {j : Nat} {key : List Int} (h : key ∈ keysOf (rw_ rows j)) : St gs key := lrch_st hg.all (I.sound j key h)
theorem linv_small {gs : List Int} (hg : Gl gs) {most : Nat} {rows : List Row} (I : Inv (lnexts gs) (zeros gs) most rows) (j : Nat) : (rw_ rows j).length ≤ 2197 := by
  have h1 : (keysOf (rw_ rows j)).length ≤ (box gs.length).length := (I.nd j).length_le_of_subset fun key hk => box_mem (fun g h => (hg.all g h).2) (linv_st hg I hk)
  rw [box_len] at h1
  have h2 : 13 ^ gs.length ≤ 13 ^ 3 := Nat.pow_le_pow_right (by decide) hg.hi
  have h3 : (keysOf (rw_ rows j)).length = (rw_ rows j).length := by unfold keysOf; rw [List.length_map]
  omega
theorem rch_both {gs : List Int} (hg : Gl gs) {j : Nat} {key : List Int} : Rch (nexts gs) (zeros gs) j key ↔ Rch (lnexts gs) (zeros gs) j key :=
  ⟨fun h => h.same fun _ _ q x hx => (next_both hg (rch_st hg.all (zeros_st hg.all) q) x).mp hx, fun h => h.same fun _ _ q x hx => (next_both hg (lrch_st hg.all q) x).mpr hx⟩
theorem lkeys {gs : List Int} (hg : Gl gs) {n j : Nat} (hj : j ≤ n) {key : List Int} : key ∈ keysOf (rw_ (lreachT gs n n) j) ↔ Rch (nexts gs) (zeros gs) j key :=
  (table_keys (lpos hg.all) (fun _ _ => Iff.rfl) hj).trans (rch_both hg).symm
/-- the stands, tick by tick -/
def lstands (gs : List Int) (n : Nat) : List (List (List Int)) := (lreachT gs n n).map keysOf
theorem cq_dLs (p : List (List Int)) {n : Nat} : Cq (n + 2) (dL p) := cq_lst fun x hx => by obtain ⟨d, _, rfl⟩ := List.mem_map.mp hx; exact cq_dI d
end M

set_option Elab.async false
set_option linter.all false
set_option maxRecDepth 100000
set_option maxHeartbeats 4000000
namespace R
open PySem L2 DL M
section
variable {P : Program} {w : World} {K : PySem.W.Frag} {mg : Str → Option Value} {base : Heap}
/-- lists of lists beside a table -/
def RelL (rows : List LRow) (tb : List Row) : Prop := rows.map (·.2) = tb.map fun r => (keysOf r).map dI
theorem RelL.len {rows : List LRow} {tb : List Row} (h : RelL rows tb) : rows.length = tb.length := by
  have := congrArg List.length h
  rw [List.length_map, List.length_map] at this; exact this
theorem RelL.at {rows : List LRow} {tb : List Row} (h : RelL rows tb) {j : Nat} (hj : j < tb.length) : ∃ row, rows[j]? = some row ∧ row.2 = (keysOf (rw_ tb j)).map dI := by
  have hr : j < rows.length := by rw [h.len]; exact hj
  refine ⟨rows[j], List.getElem?_eq_getElem hr, ?_⟩
  have := congrArg (fun l => l[j]?) h
  rw [List.getElem?_map, List.getElem?_map, List.getElem?_eq_getElem hr, at_rw hj] at this
  exact Option.some.inj this
theorem RelL.put {rows : List LRow} {tb : List Row} (h : RelL rows tb) {j : Nat} {row : LRow} (hj : j < tb.length) (hr : rows[j]? = some row) (v : V) (key : List Int) (d : D) : RelL (rows.set j (row.1 ++ [v], row.2 ++ [dI key])) (tb.set j (rw_ tb j ++ [(key, d)])) := by
  obtain ⟨row', h1, h2⟩ := h.at hj
  rw [hr] at h1
  cases h1
  unfold RelL at h ⊢
  rw [List.map_set, List.map_set, h, h2]
  unfold keysOf
  rw [List.map_append, List.map_append]; rfl
theorem lnexts_len' (gs ss : List Int) : (lnexts gs ss).length ≤ 2 ^ gs.length := by
  unfold lnexts
  rw [List.length_mergeSort]
  unfold lnx
  refine Nat.le_trans (List.length_filter_le _ _) ?_
  rw [List.length_map, List.length_range]; exact Nat.le_refl _
theorem ok_lreached (T : Txt K mg) : FnOk P w K mg base CX0 4 T.d__law_reached.f T.d__law_reached.fd ["_law_glasses_here", "_law_ticks"] (Pur (fun a : List Int × Nat => [dI a.1, .int (a.2 : Int)]) (fun a => Gl a.1 ∧ a.2 ≤ 1000) fun a => .lst ((lstands a.1 a.2).map fun l => dL l)) := by
  refine Fun.pur T.d__law_reached.F sc__law_reached (fun _ => rfl) (by decide) fun cdv A outer s H σ E Q a hr hp h q => ?_
  obtain ⟨gs, most⟩ := a
  obtain ⟨hg, hm⟩ := hp
  dsimp only at hg hm q
  have nd := sc__law_reached.nd
  have hl0 : gs.length ≤ 3 := hg.hi
  refine w_lists (n := most + 1) 2 3 [("_law_tick", 2)] (.nm 2) (i_rangeN T.z_range (d_z (d_add (d_x 1 rfl) d_i) (by omega)) (by omega)) (fun s H' C cl fp => p_nm 2 nd) (fun i => ⟨_, rfl⟩) h (fun l ds σ1 H1 e1 hnew h1 => ?_) (by omega) nd (bk__law_reached (by decide +kernel)) rfl
  dsimp only [List.set, List.map, List.cons_append, List.nil_append, List.length, List.replicate] at h1
  rw [List.append_nil] at h1
  have hgt0 : gTl 2 l ds (List.replicate (most + 1) ([], [])) ∈ [gTl 2 l ds (List.replicate (most + 1) ([], []))] := List.mem_cons_self
  have r0 : (List.replicate (most + 1) (([], []) : LRow))[0]? = some ([], []) := rfl
  refine w_appTl (d := dI (zeros gs)) (ma := 3) 0 0 rfl (r_rowL 0 hgt0 (r_x 3 rfl) d_i (by simp)) (d_eq (d_repS (xs := [.int 0]) (d_lst (a_cons d_i a_nil) one_sz) (d_len T.z_len (d_x 0 rfl)) rfl (by omega) (by rw [List.length_map]; omega) (by simp; exact sz_of (by omega))) (by rw [rep_one]; unfold zeros dI; rw [List.map_replicate, List.length_map]; simp)) r0 h1 (fun v0 H2 h2 => ?_) (by decide)
  dsimp only [List.set, List.nil_append] at h2
  have hR0 : RelL ((List.replicate (most + 1) (([], []) : LRow)).set 0 ([v0], [dI (zeros gs)])) (M.start (zeros gs) most) := by
    unfold RelL M.start
    rw [List.replicate_succ, List.set_cons_zero, List.map_cons, List.map_cons, List.map_replicate, List.map_replicate]; rfl
  have hlt : ∀ k, Inv (lnexts gs) (zeros gs) most (lreachT gs most k) := fun k => (table_ok (lpos hg.all) (fun ks s => Iff.rfl) k).1
  refine w_forZ (S := List LRow × List Row) (.nm 2) (i_rangeN T.z_range (d_x 1 rfl) (by omega)) (by decide) (p_nm 2 nd) PassesOwn.never rfl h2 (fun s => [gTl 2 l ds s.1]) (fun _ => [.dat 1 (dI gs), .dat 1 (.int (most : Int)), .any, .raw (.ref l), .any, .any, .any, .any])
    (fun k s => s.2 = lreachT gs most k ∧ RelL s.1 s.2) (_, M.start (zeros gs) most) ⟨rfl, hR0⟩ rfl (fun Z' H' h => h) (fun k d s B σ3 H3 hd is h3 => ?_) fun s σ3 H3 is h3 => ?_
  · obtain ⟨hk, rfl⟩ := rng_get hd
    rw [Int.zero_add]
    obtain ⟨rows0, rk⟩ := s
    obtain ⟨i1, i2⟩ := is
    dsimp only at i1 i2 h3
    refine ⟨_, rfl, fun σ4 H4 h4 => ?_⟩
    dsimp only [List.set] at h4
    have I0 : Inv (lnexts gs) (zeros gs) most rk := by rw [i1]; exact hlt k
    have hkl : k < rk.length := by rw [I0.len]; omega
    obtain ⟨row, hrow, hrk⟩ := i2.at hkl
    have hkr : k < rows0.length := by rw [i2.len]; exact hkl
    have hg0 : gTl 2 l ds rows0 ∈ [gTl 2 l ds rows0] := List.mem_cons_self
    generalize hks : keysOf (rw_ rk k) = ks at hrk
    have hmem : ∀ st ∈ ks, st ∈ keysOf (rw_ rk k) := fun st hst => by rw [hks]; exact hst
    have hlen1 : row.1.length = ks.length := by
      have := (h4.rowL hg0 hrow).2.length
      rw [this, hrk, List.length_map]
    refine w_forGS (S := List LRow × List Row) (li := ds.getD k 0) (ts := row.1) 4 (r_rowL k hg0 (r_x 3 rfl) (d_x 2 rfl) hkr) PassesOwn.never rfl h4 (fun s => [gTl 2 l ds s.1]) (fun _ => [.dat 1 (dI gs), .dat 1 (.int (most : Int)), .dat 2 (.int (k : Int)), .raw (.ref l), .any, .any, .any, .any])
      (fun i s => s.2 = (ks.take i).foldl (puts most k (lnexts gs)) rk ∧ Inv (lnexts gs) (zeros gs) most s.2 ∧ Grows k rk s.2 ∧ RelL s.1 s.2 ∧ s.1[k]? = some row) (rows0, rk) ⟨rfl, I0, .refl, i2, hrow⟩ rfl (fun Z' H' h => h)
      (fun i s σ' H' is h' => (h'.rowL (List.mem_cons_self) is.2.2.2.2).1) (fun i t s σ5 H5 ht is h5 => ?_) (fun s σ5 H5 is h5 => ?_) nd
    · obtain ⟨rows1, tb⟩ := s
      obtain ⟨e1', I1, g1, rl1, rk1⟩ := is
      dsimp only at e1' I1 g1 rl1 rk1 h5
      obtain ⟨d, hd1, hd2⟩ := (h5.rowL (List.mem_cons_self) rk1).2.get ht
      rw [hrk, List.getElem?_map] at hd1
      obtain ⟨st, hst, rfl⟩ := Option.map_eq_some_iff.mp hd1
      have h6 := h5.rawDat 4 rfl hd2
      dsimp only [List.set] at h6
      have hsk : st ∈ keysOf (rw_ rk k) := hmem st (List.mem_of_getElem? hst)
      have hsS : St gs st := linv_st hg I0 hsk
      refine w_forZ (S := List LRow × List Row) (m := 3) (xs := (lnexts gs st).map dN) (.tp [.nm 5, .nm 6, .nm 7]) (i_list (d_fn T.d__law_nexts (ok_lnexts T) hr pass0 (Pur.gives (gs, st) ⟨hsS.len, by dsimp only; omega⟩) (a_cons (d_x 0 rfl) (a_cons (d_x 4 rfl) a_nil))))
        (by decide) (p_tp (q_cons (p_nm 5 nd) (q_cons (p_nm 6 nd) (q_cons (p_nm 7 nd) q_nil)))) PassesOwn.never rfl h6 (fun s => [gTl 2 l ds s.1]) (fun _ => [.dat 1 (dI gs), .dat 1 (.int (most : Int)), .dat 2 (.int (k : Int)), .raw (.ref l), .dat 2 (dI st), .any, .any, .any])
        (fun j s => s.2 = ((lnexts gs st).take j).foldl (put most k st) tb ∧ Inv (lnexts gs) (zeros gs) most s.2 ∧ Grows k tb s.2 ∧ RelL s.1 s.2 ∧ s.1[k]? = some row) (rows1, tb) ⟨rfl, I1, .refl, rl1, rk1⟩ rfl (fun Z' H' h => h) (fun jj d s B3 σ7 H7 hd is h7 => ?_) fun s σ7 H7 is h7 => ?_
      · obtain ⟨x, hx, rfl⟩ : ∃ x, (lnexts gs st)[jj]? = some x ∧ d = dN x := by
          rw [List.getElem?_map] at hd
          obtain ⟨st, h1, h2⟩ := Option.map_eq_some_iff.mp hd
          exact ⟨st, h1, h2.symm⟩
        obtain ⟨rows2, tb2⟩ := s
        obtain ⟨e2', I2, g2, rl2, rk2⟩ := is
        dsimp only at e2' I2 g2 rl2 rk2 h7
        refine ⟨_, rfl, fun σ8 H8 h8 => ?_⟩
        dsimp only [List.set] at h8
        have hxm : x ∈ lnexts gs st := List.mem_of_getElem? hx
        have hx1 := (next_spec hg.all hsS hxm).2.2.2.1
        have pk := put_ok I2 (g2.keys (g1.keys hsk)) hxm hx1
        have tk : ((lnexts gs st).take (jj + 1)).foldl (put most k st) tb = put most k st tb2 x := by
          rw [take_succ_get hx, List.foldl_append, ← e2']; rfl
        obtain ⟨deed, far, there⟩ := x
        dsimp only at hx1
        have hgw : gTl 2 l ds rows2 ∈ [gTl 2 l ds rows2] := List.mem_cons_self
        have hjz : (k : Int) + far = ((k + far.toNat : Nat) : Int) := by omega
        refine w_if (b := decide ((k : Int) + far ≤ (most : Int)) && !decide (there ∈ keysOf (rw_ tb2 (k + far.toNat)))) (t_bool (w_and (t_le (d_add (d_x 2 rfl) (d_x 6 rfl)) (d_x 1 rfl)) fun hb => ?_)) h8 (fun hb H9 e9 h9 => ?_) fun hb H9 e9 h9 => ?_
        · have hb := of_decide_eq_true hb
          have hjl : k + far.toNat < tb2.length := by rw [I2.len]; omega
          obtain ⟨rw2, hrw2, hrw3⟩ := rl2.at hjl
          exact w_and1 (t_eq (t_notInD (da := dI there) (ys := (keysOf (rw_ tb2 (k + far.toNat))).map dI) (u65 hr) (d_x 7 rfl) (by rw [← hrw3]; exact l_d0 (l_rowL (k + far.toNat) hgw (r_rowL (k + far.toNat) hgw (r_x 3 rfl) (d_z (d_add (d_x 2 rfl) (d_x 6 rfl))) (by rw [rl2.len]; exact hjl)) hrw2)) (cq_dI _ (n := 0)).eqOk (cq_dLs _ (n := 0)).eqOk) (by rw [memD_ints]))
        · have hb := Bool.and_eq_true_iff.mp hb
          have hb1 := of_decide_eq_true hb.1
          have hb2 : there ∉ keysOf (rw_ tb2 (k + far.toNat)) := fun z => by
            have := hb.2; rw [decide_eq_true z] at this; cases this
          have hjm : k + far.toNat ≤ most := by omega
          have hjl : k + far.toNat < tb2.length := by rw [I2.len]; omega
          obtain ⟨rw2, hrw2, hrw3⟩ := rl2.at hjl
          have hsm := linv_small hg I2 (k + far.toNat)
          refine w_appTl (d := dI there) (ma := 2) 0 (k + far.toNat) rfl (r_rowL (k + far.toNat) hgw (r_x 3 rfl) (d_z (d_add (d_x 2 rfl) (d_x 6 rfl))) (by rw [rl2.len]; exact hjl)) (d_x 7 rfl) hrw2 h9 (fun v H10 h10 => w_end ?_) (by rw [hrw3, List.length_map]; unfold keysOf; rw [List.length_map]; omega)
          refine wp_nil ⟨(rows2.set (k + far.toNat) (rw2.1 ++ [v], rw2.2 ++ [dI there]), put most k st tb2 (deed, far, there)), ⟨tk.symm, pk.1, g2.trans pk.2.1, ?_, ?_⟩, ?_⟩
          rotate_left 2
          · have h11 := h10.drops [5, 6, 7]
            dsimp only [anyAt, List.foldl, List.set] at h11
            exact h11
          · unfold put
            dsimp only
            rw [if_pos ⟨hjm, rowGet_none.mpr hb2⟩]
            exact rl2.put hjl hrw2 v there _
          · dsimp only
            rw [List.getElem?_set_ne (by omega)]; exact rk2
        · refine w_end ?_
          refine wp_nil ⟨(rows2, put most k st tb2 (deed, far, there)), ⟨tk.symm, pk.1, g2.trans pk.2.1, ?_, rk2⟩, ?_⟩
          · unfold put
            dsimp only
            rw [if_neg fun z => by
              rw [decide_eq_false (rowGet_none.mp z.2), decide_eq_true (show (k : Int) + far ≤ (most : Int) by have := z.1; omega)] at hb
              cases hb]
            exact rl2
          · have h11 := h9.drops [5, 6, 7]
            dsimp only [anyAt, List.foldl, List.set] at h11
            exact h11
      · obtain ⟨rows2, tb2⟩ := s
        obtain ⟨e2', I2, g2, rl2, rk2⟩ := is
        dsimp only at e2' I2 g2 rl2 rk2 h7
        refine wp_nil ⟨(rows2, tb2), ⟨?_, I2, g1.trans g2, rl2, rk2⟩, h7.drop 4⟩
        rw [List.length_map, List.take_length] at e2'
        dsimp only
        rw [e2', e1', take_succ_get hst, List.foldl_append]; rfl
    · obtain ⟨rows1, tb⟩ := s
      obtain ⟨e1', I1, g1, rl1, rk1⟩ := is
      dsimp only at e1' I1 g1 rl1 rk1 h5
      refine wp_nil ⟨(rows1, tb), ⟨?_, rl1⟩, h5.drop 2⟩
      dsimp only
      rw [hlen1, List.take_length] at e1'
      rw [e1', ← hks, i1]
      exact (table_succ k).symm
  · obtain ⟨rows, tb⟩ := s
    obtain ⟨i1, i2⟩ := is
    dsimp only at i1 i2 h3
    rw [rng_len] at i1
    subst i1
    refine w_retR (r_x 3 rfl) h3 fun H4 e4 h4 => ?_
    refine q _ H4 (h4.h0x) ?_
    have := tl_rep h4 (List.mem_cons_self)
    have er : D.lst (rows.map fun r => D.lst r.2) = .lst ((lstands gs most).map fun l => dL l) := by
      unfold lstands
      rw [List.map_map]
      have := congrArg (List.map D.lst) i2
      rw [List.map_map, List.map_map] at this
      exact congrArg D.lst this
    rw [← er]
    exact this
end
end R

set_option Elab.async false
set_option linter.all false
set_option maxRecDepth 100000
/-! M22: deeds and plans in order; the plan of a number, the number of a plan. -/
namespace M
open PySem L2 DL
abbrev ltI (a b : List Int) : Bool := ltD (dI a) (dI b)
abbrev ltP (a b : Pln) : Bool := ltD (dL a) (dL b)
theorem toPyL_map (xs : List (List Int)) : toPyL (xs.map dI) = xs.map fun x => PyData.list (x.map .int) := by
  induction xs with
  | nil => rfl
  | cons x xs ih => rw [List.map_cons, List.map_cons, toPyL, ih, toPy_dI]
theorem leD_ints (a b : List Int) : leD (dI a) (dI b) = decide (a ≤ b) := by
  have := congrFun (congrFun (W.dataLe_rows (fun x : List Int => x)) a) b
  rw [← this]
  show W.dataLe false toPy (dI a) (dI b) = _
  rw [W.dataLe_eq, W.dataLe_eq]
  show (!W.dataLt (toPy (dI b)) (toPy (dI a))) = _
  rw [toPy_dI, toPy_dI]; rfl
theorem ltI_eq (a b : List Int) : ltI a b = decide (a < b) := by
  have h := leD_ints b a
  have h2 : leD (dI b) (dI a) = !W.dataLt (toPy (dI a)) (toPy (dI b)) := by
    show W.dataLe false toPy (dI b) (dI a) = _
    rw [W.dataLe_eq]; rfl
  show W.dataLt (toPy (dI a)) (toPy (dI b)) = _
  rw [h2] at h
  have h3 : W.dataLt (toPy (dI a)) (toPy (dI b)) = !decide (b ≤ a) := by rw [← h, Bool.not_not]
  rw [h3]
  by_cases z : a < b
  · rw [decide_eq_true z, decide_eq_false (fun y : b ≤ a => y z)]; rfl
  · rw [decide_eq_false z, decide_eq_true (show b ≤ a from z)]; rfl
theorem lt_ok (a b : List Int) : LtOk (dI a) (dI b) := ⟨(cq_dI a (n := 0)).p, (cq_dI b (n := 0)).p, alike_dI a b, (by rw [toPy_dI]; exact fun z => (by cases z)), Nat.le_trans (cq_dI a (n := 0)).z (by decide)⟩
theorem ltI_irr (a : List Int) : ltI a a = false := by rw [ltI_eq]; exact decide_eq_false (List.lt_irrefl a)
theorem ltI_asymm {a b : List Int} (h : ltI a b = true) : ltI b a = false := by
  rw [ltI_eq] at h ⊢
  exact decide_eq_false (List.lt_asymm (of_decide_eq_true h))
theorem ltI_ne {a b : List Int} (h : ltI a b = true) : a ≠ b := fun z => by rw [z, ltI_irr] at h; cases h
theorem deedsU_nd {n : Nat} (h : n ≤ 3) : (deedsU n).Nodup := by
  have : ∀ n, n < 4 → (deedsU n).Nodup := by decide +kernel
  exact this n (by omega)
theorem deeds_up {n : Nat} (h : n ≤ 3) : (deeds n).Pairwise fun a b => ltI a b = true := by
  have h1 : (deeds n).Pairwise fun a b => leD (dI a) (dI b) = true := by
    refine List.pairwise_mergeSort (fun a b c => ?_) (fun a b => ?_) _
    · rw [leD_ints, leD_ints, leD_ints]
      simp only [decide_eq_true_eq]
      exact List.le_trans
    · rw [leD_ints, leD_ints]
      simp only [Bool.or_eq_true, decide_eq_true_eq]
      exact List.le_total a b
  have h2 : (deeds n).Nodup := (List.mergeSort_perm _ _).nodup_iff.mpr (deedsU_nd h)
  refine (h1.and h2).imp fun {a b} hab => ?_
  obtain ⟨k1, k2⟩ := hab
  rw [leD_ints] at k1
  rw [ltI_eq]
  refine decide_eq_true (Classical.byContradiction fun z => k2 ?_)
  exact List.le_antisymm (of_decide_eq_true k1) z
/-- the next ones, in order -/
theorem nexts_up {gs : List Int} (hg : Gl gs) (st : List Int) : (nexts gs st).Pairwise fun x y => ltI x.1 y.1 = true := by
  unfold nexts
  refine List.Pairwise.filter _ ?_
  rw [List.pairwise_map]
  exact deeds_up hg.hi
section
variable {gs : List Int} {r : Nat}
abbrev win (r : Nat) (x : Nx) : Bool := decide (x.2.1.toNat ≤ r)
/-- one more of those that follow is looked at -/
theorem pick_no {f : Nx → List Pln} {x : Nx} {ys : List Nx} {k : Nat} (h : win r x = false) : (((x :: ys).filter (win r)).flatMap f)[k]? = ((ys.filter (win r)).flatMap f)[k]? := by
  rw [List.filter_cons, if_neg (by rw [h]; exact Bool.false_ne_true)]
theorem pick_here {nx : List Int → List Nx} {x : Nx} {ys : List Nx} {k : Nat} {tgt : Pln} (h : win r x = true) (hk : k < (allP nx (r - x.2.1.toNat) x.2.2).length) (ht : (((x :: ys).filter (win r)).flatMap (nextP nx r))[k]? = some tgt) : ∃ t, (allP nx (r - x.2.1.toNat) x.2.2)[k]? = some t ∧ tgt = x.1 :: t := by
  rw [List.filter_cons, if_pos h, List.flatMap_cons, List.getElem?_append_left (by rw [List.length_map]; exact hk), List.getElem?_map] at ht
  obtain ⟨t, h1, h2⟩ := Option.map_eq_some_iff.mp ht
  exact ⟨t, h1, h2.symm⟩
theorem pick_next {nx : List Int → List Nx} {x : Nx} {ys : List Nx} {k : Nat} (h : win r x = true) (hk : (allP nx (r - x.2.1.toNat) x.2.2).length ≤ k) : (((x :: ys).filter (win r)).flatMap (nextP nx r))[k]? = ((ys.filter (win r)).flatMap (nextP nx r))[k - (allP nx (r - x.2.1.toNat) x.2.2).length]? := by
  rw [List.filter_cons, if_pos h, List.flatMap_cons, List.getElem?_append_right (by rw [List.length_map]; exact hk), List.length_map]
/-- how many are ahead of a deed -/
def ahead (nx : List Int → List Nx) (r : Nat) (one : List Int) (xs : List Nx) : Int := sumF (fun x => ((allP nx (r - x.2.1.toNat) x.2.2).length : Int)) (xs.filter fun x => ltI x.1 one && win r x)
theorem ahead_app {nx : List Int → List Nx} {one : List Int} (a b : List Nx) : ahead nx r one (a ++ b) = ahead nx r one a + ahead nx r one b := by
  unfold ahead sumF
  rw [List.filter_append, List.map_append, List.sum_append]
theorem idx_flat {nx : List Int → List Nx} {x : Nx} {ds : Pln} (hw : win r x = true) (hd : ds ∈ allP nx (r - x.2.1.toNat) x.2.2) : ∀ {xs : List Nx}, (xs.Pairwise fun x y => ltI x.1 y.1 = true) → x ∈ xs →
    ((((xs.filter (win r)).flatMap (nextP nx r)).idxOf (x.1 :: ds) : Nat) : Int) = ahead nx r x.1 xs + (((allP nx (r - x.2.1.toNat) x.2.2).idxOf ds : Nat) : Int)
  | [], _, h => by cases h
  | y :: ys, hs, h => by
    obtain ⟨s1, s2⟩ := List.pairwise_cons.mp hs
    by_cases e : y = x
    · subst e
      have a0 : ahead nx r y.1 (y :: ys) = 0 := by
        unfold ahead
        rw [List.filter_eq_nil_iff.mpr fun z hz => ?_]
        · rfl
        · rcases List.mem_cons.mp hz with q | q
          · rw [q, ltI_irr]; simp
          · rw [ltI_asymm (s1 z q)]; simp
      rw [a0, List.filter_cons, if_pos hw, List.flatMap_cons, List.idxOf_append, if_pos (List.mem_map.mpr ⟨ds, hd, rfl⟩), Int.zero_add]
      have : ∀ l : List Pln, (l.map (y.1 :: ·)).idxOf (y.1 :: ds) = l.idxOf ds := by
        intro l
        induction l with
        | nil => rfl
        | cons a l ih =>
          rw [List.map_cons, List.idxOf_cons, List.idxOf_cons, ih]
          by_cases q : a = ds
          · rw [q]; simp
          · have q2 : (y.1 :: a == y.1 :: ds) = false := by simpa using q
            have q3 : (a == ds) = false := by simpa using q
            rw [q2, q3]
      rw [this]
    · have hx : x ∈ ys := by
        rcases List.mem_cons.mp h with z | z
        · exact absurd z.symm e
        · exact z
      have hlt := s1 x hx
      have ih := idx_flat hw hd s2 hx
      have ha : ahead nx r x.1 (y :: ys) = ahead nx r x.1 [y] + ahead nx r x.1 ys := ahead_app [y] ys
      by_cases wy : win r y = true
      · have hy : ahead nx r x.1 [y] = ((allP nx (r - y.2.1.toNat) y.2.2).length : Int) := by
          unfold ahead
          rw [List.filter_cons, if_pos (by rw [hlt, wy]; rfl)]
          unfold sumF; simp
        have nm : x.1 :: ds ∉ (allP nx (r - y.2.1.toNat) y.2.2).map (y.1 :: ·) := fun z => by
          obtain ⟨p, _, q⟩ := List.mem_map.mp z
          exact ltI_ne hlt (List.cons.inj q).1
        rw [List.filter_cons, if_pos wy, List.flatMap_cons, List.idxOf_append, if_neg nm, List.length_map, ha, hy]
        omega
      · have hy : ahead nx r x.1 [y] = 0 := by
          unfold ahead
          rw [List.filter_cons, if_neg (by simp only [Bool.and_eq_true, not_and]; exact fun _ => wy)]; rfl
        rw [List.filter_cons, if_neg wy, ha, hy]
        omega
end
end M

set_option Elab.async false
set_option linter.all false
set_option maxRecDepth 100000
/-! M23: plans that measure are those that are counted. -/
namespace M
open PySem L2 DL
theorem last_cons {α : Type} (a : α) (l : List α) : (a :: l).getLast? = some (l.getLast?.getD a) := by
  cases l with
  | nil => rfl
  | cons b l => rw [List.getLast?_cons_cons]; rw [List.getLast?_eq_some_getLast (by simp)]; rfl
def meas (gs : List Int) (plan : List (List Int)) (ticks : Int) : Bool := !decide (plan = []) && (decide ((falls gs plan).length = plan.length) && decide ((falls gs plan).getLast?.map (·.1) = some ticks))
def runTo (gs : List Int) : Int → List Int → List (List Int) → Option (Int × List Int)
  | t, s, [] => some (t, s)
  | t, s, d :: ds => if far (turned gs s d) = 0 then none else runTo gs (t + far (turned gs s d)) (there (turned gs s d)) ds
theorem runTo_app (gs : List Int) : ∀ (p q : List (List Int)) (t : Int) (s : List Int), runTo gs t s (p ++ q) = (runTo gs t s p).bind fun x => runTo gs x.1 x.2 q
  | [], q, t, s => rfl
  | d :: p, q, t, s => by
    have e1 : ∀ r : List (List Int), runTo gs t s (d :: r) = if far (turned gs s d) = 0 then none else runTo gs (t + far (turned gs s d)) (there (turned gs s d)) r := fun _ => rfl
    rw [List.cons_append, e1, e1]
    by_cases h : far (turned gs s d) = 0
    · rw [if_pos h, if_pos h]; rfl
    · rw [if_neg h, if_neg h]; exact runTo_app gs p q _ _
theorem runTo_some {gs : List Int} : ∀ {p : List (List Int)} {t : Int} {s : List Int} {x : Int × List Int}, runTo gs t s p = some x → (fallsFrom gs t s p).length = p.length ∧ (p ≠ [] → (fallsFrom gs t s p).getLast?.map (·.1) = some x.1)
  | [], t, s, x, h => ⟨rfl, fun z => absurd rfl z⟩
  | d :: p, t, s, x, h => by
    unfold runTo at h
    by_cases hf : far (turned gs s d) = 0
    · rw [if_pos hf] at h; cases h
    · rw [if_neg hf] at h
      obtain ⟨h1, h2⟩ := runTo_some h
      have hF : fallsFrom gs t s (d :: p) = (t + far (turned gs s d), there (turned gs s d)) :: fallsFrom gs (t + far (turned gs s d)) (there (turned gs s d)) p := by
        conv => lhs; unfold fallsFrom
        rw [if_neg hf]
      rw [hF]
      refine ⟨by rw [List.length_cons, List.length_cons, h1], fun _ => ?_⟩
      rw [last_cons]
      by_cases hp : p = []
      · subst hp
        unfold runTo at h
        cases h
        rfl
      · have h3 := h2 hp
        cases z : (fallsFrom gs (t + far (turned gs s d)) (there (turned gs s d)) p).getLast? with
        | none => rw [z] at h3; cases h3
        | some y => rw [z] at h3; exact h3
theorem runTo_none {gs : List Int} : ∀ {p : List (List Int)} {t : Int} {s : List Int}, runTo gs t s p = none → (fallsFrom gs t s p).length < p.length
  | [], t, s, h => by cases h
  | d :: p, t, s, h => by
    unfold runTo at h
    by_cases hf : far (turned gs s d) = 0
    · unfold fallsFrom; rw [if_pos hf]; simp
    · rw [if_neg hf] at h
      have := runTo_none h
      unfold fallsFrom; rw [if_neg hf, List.length_cons, List.length_cons]; omega
theorem meas_runTo {gs : List Int} {p : List (List Int)} {ticks : Int} : meas gs p ticks = true ↔ p ≠ [] ∧ ∃ s, runTo gs 0 (zeros gs) p = some (ticks, s) := by
  unfold meas falls
  cases h : runTo gs 0 (zeros gs) p with
  | none =>
    have := runTo_none h
    rw [decide_eq_false (show ¬ (fallsFrom gs 0 (zeros gs) p).length = p.length by omega), Bool.false_and, Bool.and_false]
    constructor
    · intro z; cases z
    · rintro ⟨_, s, z⟩; cases z
  | some x =>
    obtain ⟨h1, h2⟩ := runTo_some h
    rw [decide_eq_true h1, Bool.true_and]
    constructor
    · intro z
      obtain ⟨z1, z2⟩ := Bool.and_eq_true_iff.mp z
      have hp : p ≠ [] := fun e => by rw [decide_eq_true e] at z1; cases z1
      have e := of_decide_eq_true z2
      rw [h2 hp] at e
      refine ⟨hp, x.2, ?_⟩
      rw [← Option.some.inj e]
    · rintro ⟨hp, s, e⟩
      rw [decide_eq_false hp, h2 hp]
      cases e
      simp
/-- a plan takes a tick for each deed -/
theorem runTo_len {gs : List Int} (hg : ∀ g ∈ gs, 1 ≤ g ∧ g ≤ 12) : ∀ {p : List (List Int)} {t : Int} {s : List Int} {x : Int × List Int}, St gs s → runTo gs t s p = some x → t + (p.length : Int) ≤ x.1 ∧ St gs x.2
  | [], t, s, x, hs, h => by cases h; exact ⟨by simp, hs⟩
  | d :: p, t, s, x, hs, h => by
    unfold runTo at h
    have ht := hs.turn (deed := d)
    rcases far_both (ht.mem hg) with ⟨h1, h2⟩ | ⟨h1, h2, h3, h4⟩
    · rw [if_pos h1] at h; cases h
    · rw [if_neg (by omega)] at h
      obtain ⟨q1, q2⟩ := runTo_len hg ht.fall h
      refine ⟨?_, q2⟩
      rw [List.length_cons]; omega
section
variable {gs : List Int}
/-- a deed that isn't idle is among those that follow -/
theorem nexts_of (hg : Gl gs) {s d : List Int} (hs : St gs s) (hd : De gs.length d) (h : far (turned gs s d) ≠ 0) : (d, far (turned gs s d), there (turned gs s d)) ∈ nexts gs s := by
  have hf := far_both ((hs.turn (deed := d)).mem hg.all)
  refine List.mem_filter.mpr ⟨List.mem_map.mpr ⟨d, deeds_mem.mpr (deedsU_all hd), rfl⟩, decide_eq_true ?_⟩
  dsimp only
  omega
where
  deedsU_all : ∀ {n : Nat} {d : List Int}, De n d → d ∈ deedsU n
    | 0, d, h => by
      cases d with
      | nil => exact List.mem_cons_self
      | cons g d => have := h.ok g List.mem_cons_self; omega
    | n + 1, d, h => by
      unfold deedsU
      by_cases hl : ∃ d', d = d' ++ [(n : Int)]
      · obtain ⟨d', rfl⟩ := hl
        refine List.mem_append_right _ (List.mem_map.mpr ⟨d', deedsU_all ⟨fun g hg => ?_, (List.pairwise_append.mp h.up).1⟩, rfl⟩)
        have h1 := h.ok g (List.mem_append_left _ hg)
        have h2 := (List.pairwise_append.mp h.up).2.2 g hg (n : Int) (List.mem_singleton.mpr rfl)
        omega
      · refine List.mem_append_left _ (deedsU_all ⟨fun g hg => ?_, h.up⟩)
        have h1 := h.ok g hg
        refine ⟨h1.1, Classical.byContradiction fun hn => ?_⟩
        have hgn : g = (n : Int) := by omega
        subst hgn
        obtain ⟨a, b, rfl⟩ := List.append_of_mem hg
        cases b with
        | nil => exact hl ⟨a, rfl⟩
        | cons c b =>
          have h3 := (List.pairwise_append.mp h.up).2.1
          have h4 := (List.pairwise_cons.mp h3).1 c List.mem_cons_self
          have h5 := h.ok c (by simp)
          omega

/-- what is counted is what comes to an end then -/
theorem allP_iff (hg : Gl gs) : ∀ (p : Pln) (r : Nat) (st : List Int) (t : Int), St gs st → (∀ d ∈ p, De gs.length d) → (p ∈ allP (nexts gs) r st ↔ ∃ s, runTo gs t st p = some (t + (r : Int), s))
  | [], r, st, t, hs, _ => by
    by_cases hr : r = 0
    · subst hr
      rw [allP_zero]
      constructor
      · intro _; exact ⟨st, by unfold runTo; simp⟩
      · intro _; exact List.mem_singleton.mpr rfl
    · rw [allP_succ npos hr]
      constructor
      · intro h
        obtain ⟨x, _, hx⟩ := List.mem_flatMap.mp h
        obtain ⟨p, _, e⟩ := List.mem_map.mp hx
        cases e
      · rintro ⟨s, e⟩
        unfold runTo at e
        have := congrArg Prod.fst (Option.some.inj e)
        dsimp only at this
        omega
  | d :: p, r, st, t, hs, hd => by
    have hdd := hd d List.mem_cons_self
    have hf := far_both ((hs.turn (deed := d)).mem hg.all)
    by_cases h0 : far (turned gs st d) = 0
    · constructor
      · intro h
        exfalso
        by_cases hr : r = 0
        · subst hr; rw [allP_zero] at h; simp at h
        · rw [allP_succ npos hr] at h
          obtain ⟨x, hx, h⟩ := List.mem_flatMap.mp h
          obtain ⟨p', _, e⟩ := List.mem_map.mp h
          obtain ⟨hx, _⟩ := nxW_mem.mp hx
          have h1 := npos _ _ hx
          have h2 := (nexts_spec hg.all hs hx).2.1
          rw [(List.cons.inj e).1, h0] at h2
          omega
      · rintro ⟨s, e⟩
        unfold runTo at e
        rw [if_pos h0] at e; cases e
    · have hp1 : 1 ≤ far (turned gs st d) := by omega
      have hst' : St gs (there (turned gs st d)) := (hs.turn (deed := d)).fall
      have e1 : runTo gs t st (d :: p) = runTo gs (t + far (turned gs st d)) (there (turned gs st d)) p := by
        conv => lhs; unfold runTo
        rw [if_neg h0]
      rw [e1]
      have hlen : ∀ s, runTo gs (t + far (turned gs st d)) (there (turned gs st d)) p = some (t + (r : Int), s) → far (turned gs st d) ≤ (r : Int) := fun s e => by
        have := (runTo_len hg.all hst' e).1
        omega
      have ih := allP_iff hg p (r - (far (turned gs st d)).toNat) (there (turned gs st d)) (t + far (turned gs st d)) hst' fun y hy => hd y (List.mem_cons_of_mem _ hy)
      constructor
      · intro h
        have hr : r ≠ 0 := fun z => by subst z; rw [allP_zero] at h; simp at h
        rw [allP_succ npos hr] at h
        obtain ⟨x, hx, h⟩ := List.mem_flatMap.mp h
        obtain ⟨p', hp', e⟩ := List.mem_map.mp h
        obtain ⟨hx, hw⟩ := nxW_mem.mp hx
        obtain ⟨_, h2, h3, _⟩ := nexts_spec hg.all hs hx
        obtain ⟨ed, ep⟩ := List.cons.inj e
        subst ep
        rw [ed] at h2 h3
        rw [h2, h3] at hp'
        rw [h2] at hw
        obtain ⟨s, q⟩ := ih.mp hp'
        refine ⟨s, q.trans ?_⟩
        congr 2
        omega
      · rintro ⟨s, e⟩
        have hle := hlen s e
        have hr : r ≠ 0 := by omega
        rw [allP_succ npos hr]
        refine List.mem_flatMap.mpr ⟨_, nxW_mem.mpr ⟨nexts_of hg hs hdd h0, by dsimp only; omega⟩, List.mem_map.mpr ⟨p, ih.mpr ⟨s, e.trans ?_⟩, rfl⟩⟩
        congr 2
        omega
/-- plans that measure -/
theorem meas_allP (hg : Gl gs) {p : Pln} {n : Nat} (hn : 1 ≤ n) (hd : ∀ d ∈ p, De gs.length d) : meas gs p (n : Int) = true ↔ p ∈ allP (nexts gs) n (zeros gs) := by
  rw [meas_runTo, allP_iff hg p n (zeros gs) 0 (zeros_st hg.all) hd, Int.zero_add]
  constructor
  · exact fun h => h.2
  · refine fun h => ⟨fun z => ?_, h⟩
    subst z
    obtain ⟨s, e⟩ := h
    unfold runTo at e
    have := congrArg Prod.fst (Option.some.inj e)
    dsimp only at this
    omega
theorem deed_of_is {n : Nat} {d : List Int} (h : isDeed n (dI d) = true) : De n d := by
  obtain ⟨h1, h2⟩ := Bool.and_eq_true_iff.mp (show (_ && _) = true from h)
  refine ⟨fun g hg => ?_, ?_⟩
  · have := List.all_eq_true.mp h1 (.int g) (List.mem_map.mpr ⟨g, hg, rfl⟩)
    obtain ⟨k1, k2⟩ := Bool.and_eq_true_iff.mp (show (decide (0 ≤ g) && decide (g ≤ (n : Int) - 1)) = true from this)
    have k1 := of_decide_eq_true k1
    have k2 := of_decide_eq_true k2
    omega
  · have : ∀ ns : List Int, rising (ns.map D.int) = true → ns.Pairwise (· < ·) := by
      intro ns
      induction ns with
      | nil => intro _; exact .nil
      | cons a r ih =>
        intro hr
        cases r with
        | nil => exact List.pairwise_singleton _ _
        | cons b r =>
          obtain ⟨q1, q2⟩ := Bool.and_eq_true_iff.mp (show (decide (a < b) && rising ((b :: r).map D.int)) = true from hr)
          have q1 := of_decide_eq_true q1
          have ihh := ih q2
          refine List.pairwise_cons.mpr ⟨fun c hc => ?_, ihh⟩
          rcases List.mem_cons.mp hc with z | z
          · rw [z]; exact q1
          · have := (List.pairwise_cons.mp ihh).1 c z; omega
    exact this d h2
end
end M

set_option Elab.async false
set_option linter.all false
set_option maxRecDepth 100000
/-! M24: the law's own counts, forward, are these plans; the law's own walks, too. -/
namespace M
open PySem L2 DL
abbrev GE : Type := List Int × List Pln
abbrev GRw : Type := List GE
abbrev vD (ps : List Pln) : Int × Int := ((ps.length : Int), min0 (ps.map tot))
abbrev toD (e : GE) : List Int × D := (e.1, dC (vD e.2))
def gput (row : GRw) (key : List Int) (ps : List Pln) : GRw := if (row.any fun e => decide (e.1 = key)) = true then row.map (fun e => if e.1 = key then (e.1, e.2 ++ ps) else e) else row ++ [(key, ps)]
def gfind (row : GRw) (key : List Int) : Option (List Pln) := (row.find? fun e => decide (e.1 = key)).map (·.2)
def gml (row : GRw) (key : List Int) : Int × Int := match gfind row key with
  | some E => vD E
  | none => (0, 999)
section
variable {gs : List Int} {n : Nat}
def suf (gs : List Int) (n j : Nat) (e : GE) : List Pln := e.2.flatMap fun p => (allP (nexts gs) (n - j) e.1).map (p ++ ·)
def rowP (gs : List Int) (n j : Nat) (row : GRw) : List Pln := row.flatMap (suf gs n j)
def pendF (gs : List Int) (n : Nat) : Nat → List GRw → List Pln
  | _, [] => []
  | j, row :: rest => rowP gs n j row ++ pendF gs n (j + 1) rest
theorem perm_swap {α β γ : Type} (f : α → β → List γ) : ∀ (l1 : List α) (l2 : List β), (l1.flatMap fun a => l2.flatMap (f a)).Perm (l2.flatMap fun b => l1.flatMap fun a => f a b)
  | [], l2 => by
    have : (l2.flatMap fun b => ([] : List α).flatMap fun a => f a b) = [] := by
      induction l2 with
      | nil => rfl
      | cons b l2 ih => rw [List.flatMap_cons, ih]; rfl
    rw [this]; exact .refl _
  | a :: l1, l2 => by
    rw [List.flatMap_cons]
    have ih := perm_swap f l1 l2
    refine ((List.Perm.refl _).append ih).trans ?_
    clear ih
    induction l2 with
    | nil => exact .refl _
    | cons b l2 ih =>
      simp only [List.flatMap_cons, List.append_assoc] at ih ⊢
      refine (List.Perm.refl (f a b)).append ?_
      refine List.Perm.trans ?_ ((List.Perm.refl (l1.flatMap fun a => f a b)).append ih)
      rw [← List.append_assoc, ← List.append_assoc]
      exact (List.perm_append_comm).append (.refl _)
theorem gput_new {row : GRw} {key : List Int} {ps : List Pln} (h : key ∉ row.map (·.1)) : gput row key ps = row ++ [(key, ps)] := by
  unfold gput
  rw [if_neg]
  intro z
  obtain ⟨e, he, hk⟩ := List.any_eq_true.mp z
  exact h (List.mem_map.mpr ⟨e, he, of_decide_eq_true hk⟩)
theorem gput_old {row : GRw} {key : List Int} {ps : List Pln} (h : key ∈ row.map (·.1)) : gput row key ps = row.map (fun e => if e.1 = key then (e.1, e.2 ++ ps) else e) := by
  unfold gput
  rw [if_pos]
  obtain ⟨e, he, hk⟩ := List.mem_map.mp h
  exact List.any_eq_true.mpr ⟨e, he, decide_eq_true hk⟩
theorem gput_keys {row : GRw} {key : List Int} {ps : List Pln} : (gput row key ps).map (·.1) = if key ∈ row.map (·.1) then row.map (·.1) else row.map (·.1) ++ [key] := by
  by_cases h : key ∈ row.map (·.1)
  · rw [if_pos h, gput_old h, List.map_map]
    refine List.map_congr_left fun e _ => ?_
    show (if e.1 = key then (e.1, e.2 ++ ps) else e).1 = e.1
    split <;> rfl
  · rw [if_neg h, gput_new h, List.map_append]; rfl
theorem gput_nd {row : GRw} {key : List Int} {ps : List Pln} (h : (row.map (·.1)).Nodup) : ((gput row key ps).map (·.1)).Nodup := by
  rw [gput_keys]
  split
  · exact h
  · rename_i z
    exact List.nodup_append.mpr ⟨h, by simp, fun a ha b hb => by rw [List.mem_singleton.mp hb]; exact fun e => z (by rw [← e]; exact ha)⟩
theorem gput_mem {row : GRw} {key : List Int} {ps : List Pln} {e : GE} (h : e ∈ gput row key ps) : e ∈ row ∨ e = (key, ps) ∨ ∃ E, (key, E) ∈ row ∧ e = (key, E ++ ps) := by
  by_cases k : key ∈ row.map (·.1)
  · rw [gput_old k] at h
    obtain ⟨e', he, rfl⟩ := List.mem_map.mp h
    by_cases q : e'.1 = key
    · rw [if_pos q]
      refine .inr (.inr ⟨e'.2, ?_, by rw [q]⟩)
      rw [← q]; exact he
    · rw [if_neg q]; exact .inl he
  · rw [gput_new k] at h
    rcases List.mem_append.mp h with z | z
    · exact .inl z
    · exact .inr (.inl (List.mem_singleton.mp z))
theorem suf_app (j : Nat) (key : List Int) (a b : List Pln) : suf gs n j (key, a ++ b) = suf gs n j (key, a) ++ suf gs n j (key, b) := by unfold suf; rw [List.flatMap_append]
theorem rowP_put (j : Nat) (key : List Int) (ps : List Pln) : ∀ {row : GRw}, (row.map (·.1)).Nodup → (rowP gs n j (gput row key ps)).Perm (rowP gs n j row ++ suf gs n j (key, ps)) := by
  intro row nd
  by_cases k : key ∈ row.map (·.1)
  · rw [gput_old k]
    induction row with
    | nil => cases k
    | cons e row ih =>
      have nd' := (List.nodup_cons.mp nd)
      unfold rowP
      rw [List.map_cons, List.flatMap_cons, List.flatMap_cons]
      by_cases q : e.1 = key
      · rw [if_pos q]
        have hr : row.map (fun e => if e.1 = key then (e.1, e.2 ++ ps) else e) = row := by
          rw [show row = row.map id by simp]
          rw [List.map_map]
          refine List.map_congr_left fun e' he' => ?_
          show (if e'.1 = key then _ else e') = e'
          rw [if_neg]
          intro z
          refine nd'.1 (List.mem_map.mpr ⟨e', he', ?_⟩)
          show e'.1 = e.1
          rw [z, q]
        rw [hr, show suf gs n j (e.1, e.2 ++ ps) = suf gs n j e ++ suf gs n j (key, ps) by rw [suf_app, q]; rw [← q]]
        rw [List.append_assoc, List.append_assoc]
        exact (List.Perm.refl _).append List.perm_append_comm
      · rw [if_neg q, List.append_assoc]
        refine (List.Perm.refl _).append (ih nd'.2 ?_)
        rcases List.mem_cons.mp k with z | z
        · exact absurd z.symm q
        · exact z
  · rw [gput_new k]
    unfold rowP
    rw [List.flatMap_append, List.flatMap_cons, List.flatMap_nil, List.append_nil]
theorem pendF_set (key : List Int) (ps : List Pln) : ∀ {rs : List GRw} {j i : Nat} {row : GRw}, rs[i]? = some row → (row.map (·.1)).Nodup → (pendF gs n j (rs.set i (gput row key ps))).Perm (pendF gs n j rs ++ suf gs n (j + i) (key, ps))
  | [], _, _, _, h, _ => by simp at h
  | row :: rs, j, 0, row', h, nd => by
    have e : row = row' := Option.some.inj h
    subst e
    show (rowP gs n j (gput row key ps) ++ pendF gs n (j + 1) rs).Perm ((rowP gs n j row ++ pendF gs n (j + 1) rs) ++ suf gs n j (key, ps))
    refine ((rowP_put j key ps nd).append (.refl _)).trans ?_
    rw [List.append_assoc, List.append_assoc]
    exact (List.Perm.refl _).append List.perm_append_comm
  | row :: rs, j, i + 1, row', h, nd => by
    show (rowP gs n j row ++ pendF gs n (j + 1) (rs.set i (gput row' key ps))).Perm ((rowP gs n j row ++ pendF gs n (j + 1) rs) ++ suf gs n (j + (i + 1)) (key, ps))
    rw [List.append_assoc, show j + (i + 1) = (j + 1) + i by omega]
    exact (List.Perm.refl _).append (pendF_set key ps h nd)
theorem map_flatMap' {α β γ : Type} (f : α → List β) (g : β → γ) (l : List α) : (l.flatMap f).map g = l.flatMap fun a => (f a).map g := by
  induction l with
  | nil => rfl
  | cons a l ih => rw [List.flatMap_cons, List.map_append, ih, List.flatMap_cons]
theorem flatMap_map' {α β γ : Type} (f : α → β) (g : β → List γ) (l : List α) : (l.map f).flatMap g = l.flatMap fun a => g (f a) := by
  induction l with
  | nil => rfl
  | cons a l ih => rw [List.map_cons, List.flatMap_cons, ih, List.flatMap_cons]
/-- an entry's plans go on by those that follow -/
theorem suf_step {j : Nat} (hj : j < n) (key : List Int) (L : List Pln) : (suf gs n j (key, L)).Perm ((nxW (nexts gs) (n - j) key).flatMap fun x => suf gs n (j + x.2.1.toNat) (x.2.2, L.map (· ++ [x.1]))) := by
  unfold suf
  rw [allP_succ npos (by omega)]
  have e1 : (L.flatMap fun p => ((nxW (nexts gs) (n - j) key).flatMap (nextP (nexts gs) (n - j))).map (p ++ ·)) = L.flatMap fun p => (nxW (nexts gs) (n - j) key).flatMap fun x => (allP (nexts gs) (n - j - x.2.1.toNat) x.2.2).map fun s => p ++ x.1 :: s := by
    refine flatMap_congr' fun p _ => ?_
    rw [map_flatMap']
    refine flatMap_congr' fun x _ => ?_
    rw [List.map_map]; rfl
  have e2 : ((nxW (nexts gs) (n - j) key).flatMap fun x => (L.map (· ++ [x.1])).flatMap fun p => (allP (nexts gs) (n - (j + x.2.1.toNat)) x.2.2).map (p ++ ·)) = (nxW (nexts gs) (n - j) key).flatMap fun x => L.flatMap fun p => (allP (nexts gs) (n - j - x.2.1.toNat) x.2.2).map fun s => p ++ x.1 :: s := by
    refine flatMap_congr' fun x _ => ?_
    rw [flatMap_map', ← Nat.sub_sub]
    refine flatMap_congr' fun p _ => List.map_congr_left fun s _ => ?_
    simp
  show (L.flatMap fun p => ((nxW (nexts gs) (n - j) key).flatMap (nextP (nexts gs) (n - j))).map (p ++ ·)).Perm ((nxW (nexts gs) (n - j) key).flatMap fun x => (L.map (· ++ [x.1])).flatMap fun p => (allP (nexts gs) (n - (j + x.2.1.toNat)) x.2.2).map (p ++ ·))
  rw [e1, e2]
  exact perm_swap _ _ _
theorem lnx_nd {gs st : List Int} (hg : Gl gs) : (lnx gs st).Nodup := by
  have h : ((List.range (2 ^ gs.length)).map (nx1 gs st)).Nodup := by
    have h1 : ((List.range (2 ^ gs.length)).map (deedOf gs.length)).Nodup := by
      have : ∀ n, n < 4 → ((List.range (2 ^ n)).map (deedOf n)).Nodup := by decide +kernel
      exact this _ (by have := hg.hi; omega)
    refine List.Pairwise.map _ ?_ (List.pairwise_map.mp h1)
    exact fun a b hab e => hab (congrArg (fun x : Nx => x.1) e)
  exact h.sublist List.filter_sublist
theorem nexts_nd {gs st : List Int} (hg : Gl gs) : (nexts gs st).Nodup := (nexts_up hg st).imp fun {a b} h (e : a = b) => ltI_ne h (by rw [e])
theorem lnexts_perm {gs st : List Int} (hg : Gl gs) (hs : St gs st) : (lnexts gs st).Perm (nexts gs st) := by
  refine (List.perm_ext_iff_of_nodup ((List.mergeSort_perm _ _).nodup_iff.mpr (lnx_nd hg)) (nexts_nd hg)).mpr fun x => (next_both hg hs x).symm
theorem min0_app {a b : List Int} (ha : a ≠ []) (hb : b ≠ []) : min0 (a ++ b) = min (min0 a) (min0 b) := by
  obtain ⟨a1, a2⟩ := min0_mem ha
  obtain ⟨b1, b2⟩ := min0_mem hb
  refine min0_iff ?_ fun y hy => ?_
  · rcases Int.le_total (min0 a) (min0 b) with z | z
    · rw [Int.min_eq_left z]; exact List.mem_append_left _ a1
    · rw [Int.min_eq_right z]; exact List.mem_append_right _ b1
  · rcases List.mem_append.mp hy with z | z
    · exact Int.le_trans (Int.min_le_left _ _) (a2 y z)
    · exact Int.le_trans (Int.min_le_right _ _) (b2 y z)
theorem tot_app (p q : Pln) : tot (p ++ q) = tot p + tot q := by unfold tot sumF; rw [List.map_append, List.sum_append]
theorem tot_one (d : List Int) : tot [d] = (d.length : Int) := by unfold tot sumF; simp
theorem min0_more {L : List Pln} (hL : L ≠ []) (d : List Int) : min0 ((L.map (· ++ [d])).map tot) = min0 (L.map tot) + (d.length : Int) := by
  have hn : L.map tot ≠ [] := by simpa using hL
  obtain ⟨a1, a2⟩ := min0_mem hn
  obtain ⟨p, hp, e⟩ := List.mem_map.mp a1
  refine min0_iff ?_ fun y hy => ?_
  · rw [List.map_map]
    refine List.mem_map.mpr ⟨p, hp, ?_⟩
    show tot (p ++ [d]) = _
    rw [tot_app, tot_one, e]
  · rw [List.map_map] at hy
    obtain ⟨q, hq, rfl⟩ := List.mem_map.mp hy
    show _ ≤ tot (q ++ [d])
    rw [tot_app, tot_one]
    have := a2 _ (List.mem_map.mpr ⟨q, hq, rfl⟩)
    omega
theorem gfind_none {row : GRw} {key : List Int} (h : key ∉ row.map (·.1)) : gfind row key = none := by
  unfold gfind
  rw [List.find?_eq_none.mpr fun e he z => h (List.mem_map.mpr ⟨e, he, of_decide_eq_true z⟩)]; rfl
theorem gfind_some {row : GRw} {key : List Int} (h : key ∈ row.map (·.1)) : ∃ E, gfind row key = some E ∧ (key, E) ∈ row := by
  unfold gfind
  cases z : row.find? fun e => decide (e.1 = key) with
  | none =>
    obtain ⟨e, he, hk⟩ := List.mem_map.mp h
    have := List.find?_eq_none.mp z e he
    rw [decide_eq_true hk] at this; exact absurd rfl this
  | some e =>
    have h1 := List.find?_some z
    have h2 := List.mem_of_find?_eq_some z
    exact ⟨e.2, rfl, by rw [← of_decide_eq_true h1]; exact h2⟩
theorem rowGet_toD (row : GRw) (key : List Int) : rowGet (row.map toD) key = (gfind row key).map fun E => dC (vD E) := by
  induction row with
  | nil => rfl
  | cons e row ih =>
    rw [List.map_cons, rowGet_cons]
    unfold gfind at ih ⊢
    rw [List.find?_cons]
    by_cases q : e.1 = key
    · rw [if_pos q, decide_eq_true q]; rfl
    · rw [if_neg q, decide_eq_false q]; exact ih
theorem gml_D (row : GRw) (key : List Int) : (rowGet (row.map toD) key).getD (dC (0, 999)) = dC (gml row key) := by
  rw [rowGet_toD]
  unfold gml
  cases gfind row key <;> rfl
theorem find_nd {row : GRw} {key : List Int} {E : List Pln} (nd : (row.map (·.1)).Nodup) (h : (key, E) ∈ row) : gfind row key = some E := by
  obtain ⟨E', h1, h2⟩ := gfind_some (List.mem_map.mpr ⟨(key, E), h, rfl⟩)
  rw [h1]
  induction row with
  | nil => cases h
  | cons e row ih =>
    have nd' := List.nodup_cons.mp nd
    rcases List.mem_cons.mp h with z | z
    · rcases List.mem_cons.mp h2 with y | y
      · rw [← z] at y; cases y; rfl
      · exact absurd (List.mem_map.mpr ⟨_, y, by rw [← z]⟩) nd'.1
    · rcases List.mem_cons.mp h2 with y | y
      · exact absurd (List.mem_map.mpr ⟨_, z, by rw [← y]⟩) nd'.1
      · refine ih nd'.2 z ?_ y
        unfold gfind at h1 ⊢
        rw [List.find?_cons] at h1
        have : ¬ e.1 = key := fun q => nd'.1 (List.mem_map.mpr ⟨_, z, q.symm⟩)
        rw [decide_eq_false this] at h1
        exact h1
theorem rowPut_toD {row : GRw} {key : List Int} {ps : List Pln} (nd : (row.map (·.1)).Nodup) (hE : ∀ e ∈ row, e.2 ≠ []) (hp : ps ≠ []) (h9 : min0 (ps.map tot) ≤ 999) :
    rowPut (row.map toD) key (dC ((gml row key).1 + (ps.length : Int), min (gml row key).2 (min0 (ps.map tot)))) = (gput row key ps).map toD := by
  have ea : ((row.map toD).any fun p => decide (p.1 = key)) = row.any fun e => decide (e.1 = key) := by rw [List.any_map]; rfl
  by_cases k : key ∈ row.map (·.1)
  · obtain ⟨E, h1, h2⟩ := gfind_some k
    rw [gput_old k]
    unfold rowPut
    rw [ea, if_pos (by obtain ⟨e, he, hk⟩ := List.mem_map.mp k; exact List.any_eq_true.mpr ⟨e, he, decide_eq_true hk⟩), List.map_map, List.map_map]
    refine List.map_congr_left fun e he => ?_
    show (if e.1 = key then (e.1, _) else toD e) = toD (if e.1 = key then (e.1, e.2 ++ ps) else e)
    by_cases q : e.1 = key
    · rw [if_pos q, if_pos q]
      have : gfind row key = some e.2 := find_nd nd (by rw [← q]; exact he)
      unfold gml
      rw [this]
      show (e.1, dC _) = (e.1, dC _)
      have hne := hE e he
      rw [show vD (e.2 ++ ps) = ((vD e.2).1 + (ps.length : Int), min (vD e.2).2 (min0 (ps.map tot))) by
        show (((e.2 ++ ps).length : Int), min0 ((e.2 ++ ps).map tot)) = _
        rw [List.map_append, min0_app (by simpa using hne) (by simpa using hp), List.length_append]
        show (_, _) = (_, _)
        congr 1]
    · rw [if_neg q, if_neg q]
  · rw [gput_new k]
    unfold rowPut
    rw [ea, if_neg (fun z => by obtain ⟨e, he, hk⟩ := List.any_eq_true.mp z; exact k (List.mem_map.mpr ⟨e, he, of_decide_eq_true hk⟩)), List.map_append]
    congr 1
    unfold gml
    rw [gfind_none k]
    show [(key, dC (0 + (ps.length : Int), min 999 (min0 (ps.map tot))))] = [(key, dC ((ps.length : Int), min0 (ps.map tot)))]
    rw [Int.zero_add, Int.min_eq_right h9]
/-- the law's table -/
structure GI (gs : List Int) (n : Nat) (G : List GRw) : Prop where
  len : G.length = n + 1
  nd : ∀ (j : Nat) (row : GRw), G[j]? = some row → (row.map (·.1)).Nodup
  ent : ∀ (j : Nat) (row : GRw), G[j]? = some row → ∀ e ∈ row, St gs e.1 ∧ e.2 ≠ [] ∧ ∀ p ∈ e.2, tot p ≤ 3 * (j : Int)
theorem GI.put {G : List GRw} {j : Nat} {row : GRw} {key : List Int} {ps : List Pln} (I : GI gs n G) (hj : G[j]? = some row) (hs : St gs key) (hp : ps ≠ []) (ht : ∀ p ∈ ps, tot p ≤ 3 * (j : Int)) : GI gs n (G.set j (gput row key ps)) := by
  have hl := (List.getElem?_eq_some_iff.mp hj).1
  refine ⟨by rw [List.length_set]; exact I.len, fun i row' h => ?_, fun i row' h e he => ?_⟩
  · by_cases q : j = i
    · subst q
      rw [List.getElem?_set_self hl] at h
      cases h
      exact gput_nd (I.nd j row hj)
    · rw [List.getElem?_set_ne q] at h
      exact I.nd i row' h
  · by_cases q : j = i
    · subst q
      rw [List.getElem?_set_self hl] at h
      cases h
      rcases gput_mem he with z | z | ⟨E, z1, z2⟩
      · exact I.ent j row hj e z
      · rw [z]; exact ⟨hs, hp, ht⟩
      · obtain ⟨q1, q2, q3⟩ := I.ent j row hj _ z1
        rw [z2]
        refine ⟨hs, fun w => hp (List.append_eq_nil_iff.mp w).2, fun p hp' => ?_⟩
        rcases List.mem_append.mp hp' with w | w
        · exact q3 p w
        · exact ht p w
    · rw [List.getElem?_set_ne q] at h
      exact I.ent i row' h e he
theorem gi_small {G : List GRw} {j : Nat} {row : GRw} (hg : Gl gs) (I : GI gs n G) (hj : G[j]? = some row) : row.length ≤ 2197 := by
  have h1 : (row.map (·.1)).length ≤ (box gs.length).length := (I.nd j row hj).length_le_of_subset fun key hk => by
    obtain ⟨p, hp, rfl⟩ := List.mem_map.mp hk
    exact box_mem (fun g hg' => (hg.all g hg').2) (I.ent j row hj p hp).1
  rw [List.length_map, box_len] at h1
  have h2 : 13 ^ gs.length ≤ 13 ^ 3 := Nat.pow_le_pow_right (by decide) hg.hi
  omega
end
end M

set_option Elab.async false
set_option linter.all false
set_option maxRecDepth 100000
/-! M29: the law's falls come after one tick at least; what can be, by the law's falls as by the program's. -/
namespace M
open PySem L2 DL
theorem lfar_one (ss : List Int) : 1 ≤ lfar ss := by
  have h := (minI_spec (ns := ss.filter (fun x => decide (0 < x)) ++ [99]) (by simp)).1
  unfold lfar
  rcases List.mem_append.mp h with z | z
  · have := of_decide_eq_true (List.mem_filter.mp z).2
    omega
  · rw [List.mem_singleton.mp z]; decide
theorem lpos_all {gs : List Int} : ∀ st, ∀ x ∈ lnexts gs st, 1 ≤ x.2.1 := fun st x h => by
  obtain ⟨_, _, e, _⟩ := lnx_spec (lnexts_mem.mp h)
  rw [e]
  exact lfar_one _
theorem can_both {gs : List Int} (hG : Gl gs) : ∀ (n : Nat) (st : List Int), St gs st → canB (lnexts gs) n st = canB (nexts gs) n st := by
  intro n
  induction n using Nat.strongRecOn with
  | _ n ih =>
    intro st hs
    by_cases hn : n = 0
    · subst hn; rw [canB_zero, canB_zero]
    · rw [canB_succ lpos_all hn, canB_succ npos hn]
      have hp : (nxW (lnexts gs) n st).Perm (nxW (nexts gs) n st) := (lnexts_perm hG hs).filter _
      rw [hp.any_eq]
      refine Bool.eq_iff_iff.mpr ?_
      rw [List.any_eq_true, List.any_eq_true]
      have key : ∀ x ∈ nxW (nexts gs) n st, canB (lnexts gs) (n - x.2.1.toNat) x.2.2 = canB (nexts gs) (n - x.2.1.toNat) x.2.2 := fun x hx => by
        obtain ⟨k1, k2⟩ := nxW_mem.mp hx
        have h1 := npos _ _ k1
        exact ih _ (by omega) _ (nexts_spec hG.all hs k1).2.2.2.2.2
      constructor
      · rintro ⟨x, hx, e⟩; exact ⟨x, hx, by rw [← key x hx]; exact e⟩
      · rintro ⟨x, hx, e⟩; exact ⟨x, hx, by rw [key x hx]; exact e⟩
end M

set_option Elab.async false
set_option linter.all false
set_option maxRecDepth 100000
/-! M25: plans in order; the stack of the law's own walks. -/
namespace M
open PySem L2 DL
theorem leD_total : W.TotalLe leD := W.sortLe_total _ false _
theorem leD_lt (a b : D) : leD a b = !ltD b a := by
  show W.dataLe false toPy a b = _
  rw [W.dataLe_eq]; rfl
theorem ltD_asymm {a b : D} (h : ltD a b = true) : ltD b a = false := by
  have h1 : leD b a = false := by rw [leD_lt, h]; rfl
  rcases leD_total.total a b with z | z
  · rw [leD_lt] at z
    cases q : ltD b a with
    | false => rfl
    | true => rw [q] at z; cases z
  · rw [h1] at z; cases z
theorem toPy_dL (p : Pln) : toPy (dL p) = .list (toPyL (p.map dI)) := by unfold toPy; rfl
theorem alike_L : ∀ (p q : Pln), W.alikeAll (toPyL (p.map dI)) (toPyL (q.map dI)) = true
  | [], _ => by simp [toPyL, W.alikeAll]
  | _ :: _, [] => by simp [toPyL, W.alikeAll]
  | d :: p, e :: q => by
    rw [List.map_cons, List.map_cons, toPyL, toPyL, W.alikeAll, alike_dI, alike_L p q]; rfl
theorem alike_dL (p q : Pln) : W.alike (toPy (dL p)) (toPy (dL q)) = true := by
  rw [toPy_dL, toPy_dL, W.alike]; exact alike_L p q
theorem cq_dLp (p : Pln) {n : Nat} : Cq (n + 2) (dL p) := cq_lst fun x hx => by
  obtain ⟨d, _, rfl⟩ := List.mem_map.mp hx
  exact cq_dI d
theorem ltP_ok (a b : Pln) : LtOk (dL a) (dL b) := ⟨(cq_dLp a (n := 0)).p, (cq_dLp b (n := 0)).p, alike_dL a b, (by rw [toPy_dL]; exact fun z => (by cases z)), Nat.le_trans (cq_dLp a (n := 0)).z (by decide)⟩
theorem ltP_eq (p q : Pln) : ltP p q = PyProof.Rows.lexLt PyProof.Rows.itemOrd (W.keyToksAll (toPyL (p.map dI))) (W.keyToksAll (toPyL (q.map dI))) := by
  show W.dataLt (toPy (dL p)) (toPy (dL q)) = _
  rw [toPy_dL, toPy_dL, W.dataLt_list]
theorem ltP_same (d : List Int) (p q : Pln) : ltP (d :: p) (d :: q) = ltP p q := by
  rw [ltP_eq, ltP_eq, List.map_cons, List.map_cons, toPyL, toPyL]
  exact W.dataLt_all_yes (alike_dI d d) (by have := deq_ints d d; rw [decide_eq_true rfl] at this; exact this)
theorem ltP_diff {d e : List Int} (h : d ≠ e) (p q : Pln) : ltP (d :: p) (e :: q) = ltI d e := by
  rw [ltP_eq, List.map_cons, List.map_cons, toPyL, toPyL]
  exact W.dataLt_all_no (alike_dI d e) (by have := deq_ints d e; rw [decide_eq_false h] at this; exact this)
/-- all plans are told in order -/
theorem allP_up {gs : List Int} (hg : Gl gs) : ∀ (r : Nat) (st : List Int), (allP (nexts gs) r st).Pairwise fun a b => ltP a b = true := by
  intro r
  induction r using Nat.strongRecOn with
  | _ r ih =>
    intro st
    by_cases hr : r = 0
    · subst hr; rw [allP_zero]; exact List.pairwise_singleton _ _
    · rw [allP_succ npos hr]
      have hw : ∀ x ∈ nxW (nexts gs) r st, 1 ≤ x.2.1 ∧ x.2.1.toNat ≤ r := fun x hx => by
        obtain ⟨k1, k2⟩ := nxW_mem.mp hx
        exact ⟨npos _ _ k1, k2⟩
      have hup : (nxW (nexts gs) r st).Pairwise fun x y => ltI x.1 y.1 = true := (nexts_up hg st).filter _
      revert hw hup
      generalize nxW (nexts gs) r st = xs
      intro hw hup
      induction xs with
      | nil => exact .nil
      | cons x xs ihx =>
        obtain ⟨h1, h2⟩ := List.pairwise_cons.mp hup
        rw [List.flatMap_cons]
        refine List.pairwise_append.mpr ⟨?_, ihx (fun y hy => hw y (List.mem_cons_of_mem _ hy)) h2, fun a ha b hb => ?_⟩
        · rw [List.pairwise_map]
          have := hw x List.mem_cons_self
          refine (ih (r - x.2.1.toNat) (by omega) x.2.2).imp fun {a b} h => ?_
          rw [ltP_same]; exact h
        · obtain ⟨p, _, rfl⟩ := List.mem_map.mp ha
          obtain ⟨y, hy, hb⟩ := List.mem_flatMap.mp hb
          obtain ⟨q, _, rfl⟩ := List.mem_map.mp hb
          rw [ltP_diff (ltI_ne (h1 y hy))]
          exact h1 y hy
theorem srtb_dL (xs : List Pln) : Srtb (xs.map dL) := by
  refine ⟨plnL_of fun d hd => ?_, ?_, ?_, fun d hd => ?_⟩
  · obtain ⟨x, _, rfl⟩ := List.mem_map.mp hd; exact (cq_dLp x (n := 0)).p
  · rw [List.map_map]; exact W.AllAlike.of fun a b => alike_dL a b
  · rw [List.map_map]
    refine W.Sortable.others fun b => ?_
    show toPy (dL b) ≠ _ ∧ _
    rw [toPy_dL]
    exact ⟨by simp, fun _ z => by rw [show (toPy ∘ dL) b = toPy (dL b) from rfl, toPy_dL] at z; cases z⟩
  · obtain ⟨x, _, rfl⟩ := List.mem_map.mp hd; exact Nat.le_trans (cq_dLp x (n := 0)).z (by decide)
/-- plans that come out of turn, sorted -/
theorem sort_plans {gs : List Int} (hg : Gl gs) {r : Nat} {st : List Int} {xs : List Pln} (h : xs.Perm (allP (nexts gs) r st)) : sortD (xs.map dL) = (allP (nexts gs) r st).map dL := by
  have e : sortD (xs.map dL) = (xs.mergeSort fun a b => leD (dL a) (dL b)).map dL := by
    unfold sortD
    exact (List.map_mergeSort (f := dL) fun x _ y _ => rfl).symm
  rw [e]
  congr 1
  have up := allP_up hg r st
  refine List.Perm.eq_of_pairwise (le := fun a b => leD (dL a) (dL b) = true) (fun a b ha hb h1 h2 => ?_) ?_ ?_ ((List.mergeSort_perm _ _).trans h)
  · have ha' : a ∈ allP (nexts gs) r st := h.mem_iff.mp (List.mem_mergeSort.mp ha)
    refine Classical.byContradiction fun hne => ?_
    obtain ⟨i, hi, ei⟩ := List.mem_iff_getElem.mp ha'
    obtain ⟨j, hj, ej⟩ := List.mem_iff_getElem.mp hb
    have hup := List.pairwise_iff_getElem.mp up
    rw [leD_lt] at h1 h2
    rcases Nat.lt_trichotomy i j with c | c | c
    · have := hup i j hi hj c
      rw [ei, ej] at this
      rw [show ltD (dL a) (dL b) = true from this] at h2; cases h2
    · subst c; exact hne (ei.symm.trans ej)
    · have := hup j i hj hi c
      rw [ei, ej] at this
      rw [show ltD (dL b) (dL a) = true from this] at h1; cases h1
  · exact List.pairwise_mergeSort (le := fun a b : Pln => leD (dL a) (dL b)) (fun a b c => leD_total.trans (dL a) (dL b) (dL c)) (fun a b => by
      rcases leD_total.total (dL a) (dL b) with z | z
      · show (leD (dL a) (dL b) || leD (dL b) (dL a)) = true
        rw [z]; rfl
      · show (leD (dL a) (dL b) || leD (dL b) (dL a)) = true
        rw [z, Bool.or_true]) xs
  · refine up.imp fun {a b} h => ?_
    rw [leD_lt, ltD_asymm h]; rfl
/-- what waits on the law's line -/
structure LI where
  p : Pln
  t : Nat
  s : List Int
abbrev dLi (i : LI) : D := .tup [dL i.p, .int (i.t : Int), dI i.s]
def pendL (gs : List Int) (n : Nat) (s : List LI) : List Pln := s.flatMap fun i => suf gs n i.t (i.s, [i.p])
def MuL (gs : List Int) (n : Nat) (s : List LI) : Nat := (s.map fun i => Wt (nexts gs) (n - i.t) i.s).sum
structure LOk (gs : List Int) (n : Nat) (s : List LI) : Prop where
  ok : ∀ (i : Nat) (it : LI), s[i]? = some it → it.t ≤ n ∧ St gs it.s ∧ i ≤ 8 * it.t ∧ it.p.length ≤ it.t
abbrev kid (it : LI) (x : Nx) : LI := ⟨it.p ++ [x.1], it.t + x.2.1.toNat, x.2.2⟩
section
variable {gs : List Int} {n : Nat} {s : List LI} {it : LI}
theorem pendL_app (a b : List LI) : pendL gs n (a ++ b) = pendL gs n a ++ pendL gs n b := by unfold pendL; rw [List.flatMap_append]
theorem MuL_app (a b : List LI) : MuL gs n (a ++ b) = MuL gs n a + MuL gs n b := by unfold MuL; rw [List.map_append, List.sum_append]
theorem Wt_pos (r : Nat) (st : List Int) : 2 ≤ Wt (nexts gs) r st := by rw [Wt_eq npos]; omega
theorem LOk.pop (h : LOk gs n (s ++ [it])) : LOk gs n s ∧ it.t ≤ n ∧ St gs it.s ∧ s.length ≤ 8 * it.t ∧ it.p.length ≤ it.t := by
  have := h.ok s.length it (by rw [List.getElem?_append_right (Nat.le_refl _), Nat.sub_self]; rfl)
  refine ⟨⟨fun i j hj => ?_⟩, this⟩
  have hi := (List.getElem?_eq_some_iff.mp hj).1
  exact h.ok i j (by rw [List.getElem?_append_left hi]; exact hj)
theorem LOk.kids (h : LOk gs n (s ++ [it])) {xs : List Nx} (hx : ∀ x ∈ xs, 1 ≤ x.2.1.toNat ∧ it.t + x.2.1.toNat ≤ n ∧ St gs x.2.2) (h8 : xs.length ≤ 8) : LOk gs n (s ++ xs.map (kid it)) := by
  obtain ⟨h1, h2, h3, h4, h5⟩ := h.pop
  refine ⟨fun i j hj => ?_⟩
  by_cases hi : i < s.length
  · rw [List.getElem?_append_left hi] at hj
    exact h1.ok i j hj
  · rw [List.getElem?_append_right (by omega), List.getElem?_map] at hj
    obtain ⟨x, hx', rfl⟩ := Option.map_eq_some_iff.mp hj
    obtain ⟨q1, q2, q3⟩ := hx x (List.mem_of_getElem? hx')
    have := (List.getElem?_eq_some_iff.mp hx').1
    refine ⟨q2, q3, ?_, ?_⟩
    · show i ≤ 8 * (it.t + x.2.1.toNat)
      omega
    · show (it.p ++ [x.1]).length ≤ it.t + x.2.1.toNat
      rw [List.length_append, List.length_singleton]; omega
theorem pendL_kids (hj : it.t < n) {xs : List Nx} (hp : (xs.filter (win (n - it.t))).Perm (nxW (nexts gs) (n - it.t) it.s)) : (pendL gs n ((xs.filter (win (n - it.t))).map (kid it))).Perm (pendL gs n [it]) := by
  unfold pendL
  rw [flatMap_map', List.flatMap_cons, List.flatMap_nil, List.append_nil]
  refine List.Perm.trans ?_ (suf_step hj it.s [it.p]).symm
  exact hp.flatMap_right _
theorem MuL_kids {xs : List Nx} (hp : (xs.filter (win (n - it.t))).Perm (nxW (nexts gs) (n - it.t) it.s)) : MuL gs n ((xs.filter (win (n - it.t))).map (kid it)) < MuL gs n [it] := by
  have e : MuL gs n [it] = Wt (nexts gs) (n - it.t) it.s := by unfold MuL; simp
  rw [e, Wt_eq npos]
  unfold MuL
  rw [List.map_map]
  have h1 : ((xs.filter (win (n - it.t))).map ((fun i : LI => Wt (nexts gs) (n - i.t) i.s) ∘ kid it)).sum = ((nxW (nexts gs) (n - it.t) it.s).map ((fun i : LI => Wt (nexts gs) (n - i.t) i.s) ∘ kid it)).sum := (hp.map _).sum_nat
  rw [h1]
  have h2 : ((nxW (nexts gs) (n - it.t) it.s).map ((fun i : LI => Wt (nexts gs) (n - i.t) i.s) ∘ kid it)) = (nxW (nexts gs) (n - it.t) it.s).map fun x => Wt (nexts gs) (n - it.t - x.2.1.toNat) x.2.2 := List.map_congr_left fun x _ => by
    show Wt (nexts gs) (n - (it.t + x.2.1.toNat)) x.2.2 = _
    rw [Nat.sub_sub]
  rw [h2]; omega
end
end M

set_option Elab.async false
set_option linter.all false
set_option maxRecDepth 100000
/-! M26: what the law's counts and the plans' numbers say. -/
namespace M
open PySem L2 DL
section
variable {gs : List Int} {n : Nat}
theorem allP_de (hg : Gl gs) : ∀ (r : Nat) (st : List Int), St gs st → ∀ p ∈ allP (nexts gs) r st, (∀ d ∈ p, De gs.length d) ∧ p.length ≤ r := by
  intro r
  induction r using Nat.strongRecOn with
  | _ r ih =>
    intro st hs p hp
    by_cases hr : r = 0
    · subst hr
      rw [allP_zero] at hp
      rw [List.mem_singleton.mp hp]
      exact ⟨fun _ h => (by cases h), Nat.le_refl _⟩
    · rw [allP_succ npos hr] at hp
      obtain ⟨x, hx, hp⟩ := List.mem_flatMap.mp hp
      obtain ⟨p', hp', rfl⟩ := List.mem_map.mp hp
      obtain ⟨k1, k2⟩ := nxW_mem.mp hx
      have sp := nexts_spec hg.all hs k1
      obtain ⟨q1, q2⟩ := ih (r - x.2.1.toNat) (by omega) x.2.2 sp.2.2.2.2.2 p' hp'
      refine ⟨fun d hd => ?_, by rw [List.length_cons]; omega⟩
      rcases List.mem_cons.mp hd with z | z
      · rw [z]; exact sp.1
      · exact q1 d z
theorem ltP_irr (a : Pln) : ltP a a = false := by
  cases h : ltP a a with
  | false => rfl
  | true =>
    have h2 : ltD (dL a) (dL a) = false := ltD_asymm h
    have h1 : ltD (dL a) (dL a) = true := h
    rw [h1] at h2; exact h2
theorem allP_nd (hg : Gl gs) (r : Nat) (st : List Int) : (allP (nexts gs) r st).Nodup := (allP_up hg r st).imp fun {a b} h (e : a = b) => by
  rw [e, ltP_irr] at h; cases h
theorem idx_nd {α : Type} [BEq α] [LawfulBEq α] : ∀ {l : List α} {k : Nat} {p : α}, l.Nodup → l[k]? = some p → l.idxOf p = k
  | [], _, _, _, h => by cases h
  | a :: l, 0, p, _, h => by cases h; exact List.idxOf_cons_self
  | a :: l, k + 1, p, nd, h => by
    have nd' := List.nodup_cons.mp nd
    have h' : l[k]? = some p := h
    have hne : a ≠ p := fun z => nd'.1 (by rw [z]; exact List.mem_of_getElem? h')
    have hb : (a == p) = false := by simpa using hne
    rw [List.idxOf_cons, hb, idx_nd nd'.2 h']; rfl
theorem ends_sum {row : GRw} {xs : List Pln} (h : (row.flatMap (·.2)).Perm xs) : (row.map fun e => (vD e.2).1).sum = (xs.length : Int) := by
  have e : (row.map fun e => (vD e.2).1).sum = ((row.flatMap (·.2)).length : Int) := by
    rw [len_flatMap]; rfl
  rw [e, h.length_eq]
theorem ends_min {row : GRw} {xs : List Pln} (h : (row.flatMap (·.2)).Perm xs) (hne : ∀ e ∈ row, e.2 ≠ []) (hx : xs ≠ []) : (row.map fun e => (vD e.2).2) ≠ [] ∧ minI (row.map fun e => (vD e.2).2) = min0 (xs.map tot) := by
  have hrow : row ≠ [] := fun z => by
    subst z
    have := h.length_eq
    simp at this
    exact hx (List.length_eq_zero_iff.mp this.symm)
  have hn : (row.map fun e => (vD e.2).2) ≠ [] := by simpa using hrow
  refine ⟨hn, ?_⟩
  obtain ⟨m1, m2⟩ := minI_spec hn
  symm
  refine min0_iff ?_ fun y hy => ?_
  · obtain ⟨e, he, e1⟩ := List.mem_map.mp m1
    rw [← e1]
    have hn2 : e.2.map tot ≠ [] := by simpa using hne e he
    obtain ⟨p, hp, e2⟩ := List.mem_map.mp (min0_mem hn2).1
    show min0 (e.2.map tot) ∈ _
    rw [← e2]
    exact List.mem_map.mpr ⟨p, h.mem_iff.mp (List.mem_flatMap.mpr ⟨e, he, hp⟩), rfl⟩
  · obtain ⟨p, hp, rfl⟩ := List.mem_map.mp hy
    obtain ⟨e, he, hp⟩ := List.mem_flatMap.mp (h.mem_iff.mpr hp)
    have hn2 : e.2.map tot ≠ [] := by simpa using hne e he
    have a1 := m2 _ (List.mem_map.mpr ⟨e, he, rfl⟩)
    have a2 := (min0_mem hn2).2 _ (List.mem_map.mpr ⟨p, hp, rfl⟩)
    exact Int.le_trans a1 a2
end
end M

set_option Elab.async false
set_option linter.all false
set_option maxRecDepth 100000
/-! M27: deeds written out; what can be counted by the kernel. -/
namespace M
open PySem L2 DL
def deedsX : Nat → List (List Int)
  | 0 => [[]]
  | 1 => [[], [0]]
  | 2 => [[], [0], [0, 1], [1]]
  | 3 => [[], [0], [0, 1], [0, 1, 2], [0, 2], [1], [1, 2], [2]]
  | _ => []
theorem deeds_x {n : Nat} (h : n ≤ 3) : deeds n = deedsX n := by
  have hp : ∀ n, n < 4 → (deedsU n).Perm (deedsX n) := by decide +kernel
  have hs : ∀ n, n < 4 → (deedsX n).Pairwise fun a b => decide (a ≤ b) = true := by decide +kernel
  refine List.Perm.eq_of_pairwise (le := fun a b => leD (dI a) (dI b) = true) (fun a b _ _ h1 h2 => ?_) ?_ ?_ ((List.mergeSort_perm _ _).trans (hp n (by omega)))
  · rw [leD_ints] at h1 h2
    exact List.le_antisymm (of_decide_eq_true h1) (of_decide_eq_true h2)
  · refine List.pairwise_mergeSort (le := fun a b : List Int => leD (dI a) (dI b)) (fun a b c => leD_total.trans (dI a) (dI b) (dI c)) (fun a b => ?_) _
    rcases leD_total.total (dI a) (dI b) with z | z
    · show (leD (dI a) (dI b) || leD (dI b) (dI a)) = true
      rw [z]; rfl
    · show (leD (dI a) (dI b) || leD (dI b) (dI a)) = true
      rw [z, Bool.or_true]
  · refine (hs n (by omega)).imp fun {a b} h => ?_
    rw [leD_ints]; exact h
def nextsX (gs ss : List Int) : List Nx := ((deedsX gs.length).map (nxt gs ss)).filter fun x => decide (0 < x.2.1)
theorem nexts_x {gs : List Int} (h : gs.length ≤ 3) : nexts gs = nextsX gs := by
  funext ss
  unfold nexts nextsX
  rw [deeds_x h]
theorem cnt_a : (cnt (nexts [7, 11]) 15 (zeros [7, 11])).1 ≠ 0 ∧ 0 < (cnt (nexts [7, 11]) 15 (zeros [7, 11])).1 ∧ (cnt (nexts [7, 11]) 15 (zeros [7, 11])).2 = 4 := by
  rw [nexts_x (by decide)]
  decide +kernel
theorem cnt_b : (cnt (nexts [4, 6]) 9 (zeros [4, 6])).1 = 0 := by
  rw [nexts_x (by decide)]
  decide +kernel
end M

set_option Elab.async false
set_option linter.all false
set_option maxRecDepth 100000
set_option maxHeartbeats 4000000
namespace R
open PySem L2 DL M
section
variable {P : Program} {w : World} {K : PySem.W.Frag} {mg : Str → Option Value} {base : Heap}
def subK (len size k : Nat) : List (List Int) := ((List.range k).map (deedOf len)).filter fun d => decide (d.length = size)
theorem sub_lev {len size : Nat} (h : len < 6) (h2 : size < 4) : sortI (subK len size (2 ^ len)) = levL len size := by
  have hp : ∀ len, len < 6 → ∀ size, size < 4 → (subK len size (2 ^ len)).Perm (levL len size) := by decide +kernel
  have hs : ∀ len, len < 6 → ∀ size, size < 4 → (levL len size).Pairwise fun a b => decide (a ≤ b) = true := by decide +kernel
  unfold sortI
  refine List.Perm.eq_of_pairwise (le := fun a b => leD (dI a) (dI b) = true) (fun a b _ _ h1 h2 => ?_) ?_ ?_ ((List.mergeSort_perm _ _).trans (hp len h size h2))
  · rw [leD_ints] at h1 h2
    exact List.le_antisymm (of_decide_eq_true h1) (of_decide_eq_true h2)
  · refine List.pairwise_mergeSort (le := fun a b : List Int => leD (dI a) (dI b)) (fun a b c => leD_total.trans (dI a) (dI b) (dI c)) (fun a b => ?_) _
    rcases leD_total.total (dI a) (dI b) with z | z
    · show (leD (dI a) (dI b) || leD (dI b) (dI a)) = true
      rw [z]; rfl
    · show (leD (dI a) (dI b) || leD (dI b) (dI a)) = true
      rw [z, Bool.or_true]
  · refine (hs len h size h2).imp fun {a b} h => ?_
    rw [leD_ints]; exact h
theorem sub_len (len size k : Nat) : (subK len size k).length ≤ k := by
  unfold subK
  refine Nat.le_trans (List.length_filter_le _ _) ?_
  rw [List.length_map, List.length_range]; exact Nat.le_refl _
theorem hit_both {gs : List Int} (hG : Gl gs) (n : Nat) : (!decide (keysOf (rw_ (lreachT gs n n) n) = [])) = !(rw_ (reachT gs n n) n).isEmpty := by
  have e : keysOf (rw_ (lreachT gs n n) n) = [] ↔ rw_ (reachT gs n n) n = [] := by
    have k1 : ∀ key, key ∈ keysOf (rw_ (lreachT gs n n) n) ↔ Rch (nexts gs) (zeros gs) n key := fun key => lkeys hG (Nat.le_refl n)
    have k2 : ∀ key, key ∈ keysOf (rw_ (reachT gs n n) n) ↔ Rch (nexts gs) (zeros gs) n key := fun key => table_keys (fun _ _ _ _ h => nexts_pos h) (fun ks s => sortT_mem) (Nat.le_refl n)
    have hk : keysOf (rw_ (reachT gs n n) n) = [] ↔ rw_ (reachT gs n n) n = [] := by unfold keysOf; exact List.map_eq_nil_iff
    rw [← hk, List.eq_nil_iff_forall_not_mem, List.eq_nil_iff_forall_not_mem]
    exact forall_congr' fun key => not_congr ((k1 key).trans (k2 key).symm)
  cases z : rw_ (reachT gs n n) n with
  | nil => rw [decide_eq_true (e.mpr z)]; rfl
  | cons a b => rw [decide_eq_false (fun y => by rw [e.mp y] at z; cases z)]; rfl
abbrev GE6 (gs : List Int) (n : Nat) (b c d e f : SV) : List SV := [.dat 1 (dI gs), .dat 1 (.int (n : Int)), b, c, d, e, f]
theorem ok_lleast (T : Txt K mg) : FnOk P w K mg base CX0 5 T.d__law_least.f T.d__law_least.fd ["_law_spans", "_law_ticks"] (Pur (fun a : List Int × Nat => [dI a.1, .int (a.2 : Int)]) (fun a => a.1.length ≤ 5 ∧ (∀ g ∈ a.1, 1 ≤ g ∧ g ≤ 12) ∧ a.2 ≤ 40) fun a => leastD a.1 a.2) := by
  refine Fun.pur T.d__law_least.F sc__law_least (fun _ => rfl) (by decide) fun cdv A outer s H σ E Q a hr hp h q => ?_
  obtain ⟨gs, n⟩ := a
  obtain ⟨hl5, hsp, hn4⟩ := hp
  have nd := sc__law_least.nd
  dsimp only at q hl5 hsp hn4
  have hu := hr.units
  have h : Holds { h0 := H } σ H (GE6 gs n .any .any .any .any .any) := h
  have hfin : ∀ k, k < 3 → gs.length ≤ k → levL gs.length (k + 1) = [] := by
    have : ∀ len, len < 6 → ∀ k, k < 3 → len ≤ k → levL len (k + 1) = [] := by decide +kernel
    exact this gs.length (by omega)
  have hq : (List.range (min 3 gs.length)).findSome? (fun k => (levL gs.length (k + 1)).find? (hitB gs n)) = (List.range 3).findSome? (fun k => (levL gs.length (k + 1)).find? (hitB gs n)) := by
    rcases Nat.le_total 3 gs.length with z | z
    · rw [Nat.min_eq_left z]
    · rw [Nat.min_eq_right z]
      have e : List.range 3 = List.range gs.length ++ (List.range (3 - gs.length)).map (gs.length + ·) := by
        rw [← List.range_add, Nat.add_sub_cancel' z]
      rw [e, List.findSome?_append, show ((List.range (3 - gs.length)).map (gs.length + ·)).findSome? (fun k => (levL gs.length (k + 1)).find? (hitB gs n)) = none from List.findSome?_eq_none_iff.mpr fun k hk => by
        obtain ⟨i, hi, rfl⟩ := List.mem_map.mp hk
        have := List.mem_range.mp hi
        rw [hfin _ (by omega) (by omega)]; rfl, Option.or_none]
  unfold leastD leastO at q
  rw [hq] at q
  have h2p : 2 ^ gs.length ≤ 32 := Nat.pow_le_pow_right (n := 2) (by decide) hl5
  have epw : ((1 : Int) * 2 ^ ((gs.length : Int)).toNat) = ((2 ^ gs.length : Nat) : Int) := by
    rw [Int.one_mul, Int.toNat_natCast]; exact (Int.natCast_pow 2 gs.length).symm
  have hlv : ∀ size, size < 4 → sortI (subK gs.length size (2 ^ gs.length)) = levL gs.length size := fun size hs => sub_lev (by omega) hs
  generalize 2 ^ gs.length = N at h2p epw hlv
  refine w_forS (S := Nat) (m := 3) (xs := [1, 2, 3].map D.int) (.nm 2) (i_tup (d_tup (ds := [1, 2, 3].map D.int) (a_cons d_i (a_cons d_i (a_cons d_i a_nil))) (show 3 ≤ sizeLine by decide))) (by decide) (p_nm 2 nd) PassesOwn.never rfl h (fun _ => GE6 gs n .any .any .any .any .any)
    (fun i s => ∀ j < i, (levL gs.length (j + 1)).find? (hitB gs n) = none) 0 (fun j hj => by omega) (fun _ _ z => z) (fun i d s B σ4 H4 hi is h4 => ?_) (fun s σ4 H4 is h4 => ?_)
  · obtain ⟨hi3, rfl⟩ : i < 3 ∧ d = .int ((i + 1 : Nat) : Int) := by
      rcases i with _ | _ | _ | i <;> first | (cases hi; exact ⟨by decide, rfl⟩) | (simp at hi)
    refine ⟨_, rfl, fun σ5 H5 h5 => ?_⟩
    have h5 : Holds { h0 := H, fs := [B] } σ5 H5 (GE6 gs n (.dat 2 (.int ((i + 1 : Nat) : Int))) .any .any .any .any) := h5
    refine w_own 3 (d_lst a_nil (by decide)) h5 (fun σ6 H6 e6 h6 => ?_) nd
    have h6 : Holds { h0 := H, fs := [B] } σ6 H6 (GE6 gs n (.dat 2 (.int ((i + 1 : Nat) : Int))) (.own 2 []) .any .any .any) := h6
    refine w_forS (S := Nat) (xs := rng 0 N) (.nm 4) (i_range1 (n := (N : Int)) T.z_range (d_z (d_shl d_i (d_len T.z_len (d_x 0 rfl)) ⟨by omega, by rw [List.length_map]; omega, by decide⟩) (by rw [List.length_map]; exact epw)) (by omega) (by omega)) (by decide) (p_nm 4 nd) PassesOwn.never rfl h6
      (fun k => GE6 gs n (.dat 2 (.int ((i + 1 : Nat) : Int))) (.own 2 ((subK gs.length (i + 1) k).map dI)) .any .any .any) (fun j k => k = j) 0 rfl (fun Z' H' h => h) (fun k d k' B2 σ7 H7 hd is7 h7 => ?_) fun k σ7 H7 is7 h7 => ?_
    · subst is7
      obtain ⟨hk, rfl⟩ := rng_get hd
      rw [Int.zero_add]
      refine ⟨_, rfl, fun σ8 H8 h8 => ?_⟩
      have h8 : Holds { h0 := H, fs := B2 :: [B] } σ8 H8 (GE6 gs n (.dat 2 (.int ((i + 1 : Nat) : Int))) (.own 2 ((subK gs.length (i + 1) k').map dI)) (.dat 2 (.int (k' : Int))) .any .any) := h8
      refine w_lc (me := 2) (enc := fun k : Nat => D.int (k : Int)) (ys := List.range gs.length) (tst := bitIn k') (f := fun k => .int (k : Int)) 5 [("_law_place", 6)] (.nm 6)
        (by rw [← rng_nat]; exact i_range1 (n := (gs.length : Int)) T.z_range (d_z (d_len T.z_len (d_x 0 rfl)) (by rw [List.length_map])) (by omega) (by omega)) (fun s H' C cl fp => p_nm 6 nd)
        (fun i y Z' hy hz => ⟨_, rfl, fun s H' C cl fp => pts_oneD (t_eq (t_eqi (d_bitand (d_shr (d_x 4 rfl) (d_x 6 rfl) (Int.natCast_nonneg y)) d_i) d_i) rfl), fun _ s H' C cl fp => d_sc (d_x 6 rfl) rfl⟩) h8 (fun σ9 H9 e9 h9 => ?_) (by rw [List.length_range]; omega) nd (bk__law_least (by decide +kernel)) rfl
      have ed : D.lst (((List.range gs.length).filter (bitIn k')).map fun k : Nat => .int (k : Int)) = dI (deedOf gs.length k') := by unfold deedOf; rw [← map_str]
      rw [ed] at h9
      have er : subK gs.length (i + 1) (k' + 1) = subK gs.length (i + 1) k' ++ (if (deedOf gs.length k').length = i + 1 then [deedOf gs.length k'] else []) := by
        unfold subK
        rw [List.range_succ, List.map_append, List.filter_append]
        congr 1
        show ([deedOf gs.length k'].filter fun d => decide (d.length = i + 1)) = _
        by_cases hz : (deedOf gs.length k').length = i + 1
        · rw [if_pos hz]; simp [hz]
        · rw [if_neg hz]; simp [hz]
      generalize deedOf gs.length k' = deed at h9 er
      have h9 : Holds { h0 := H, fs := B2 :: [B] } σ9 H9 (GE6 gs n (.dat 2 (.int ((i + 1 : Nat) : Int))) (.own 2 ((subK gs.length (i + 1) k').map dI)) (.dat 2 (.int (k' : Int))) (.dat 2 (dI deed)) .any) := h9
      have hsl := sub_len gs.length (i + 1) k'
      refine w_if (b := decide (deed.length = i + 1)) (t_eq (t_eqi (d_len T.z_len (d_x 5 rfl)) (d_x 2 rfl)) (by rw [List.length_map]; exact decide_eq_decide.mpr (by omega))) h9 (fun hb H10 e10 h10 => ?_) fun hb H10 e10 h10 => ?_
      · rw [if_pos (of_decide_eq_true hb)] at er
        refine w_app 3 rfl (d_x 5 rfl) h10 (fun H11 h11 => w_end ?_) (by rw [List.length_map]; omega)
        refine wp_nil ⟨k' + 1, rfl, ?_⟩
        have := h11.drops [4, 5]
        rw [er, List.map_append]
        exact this
      · rw [if_neg (of_decide_eq_false hb), List.append_nil] at er
        refine wp_nil (wp_nil ⟨k' + 1, rfl, ?_⟩)
        rw [er]
        exact h10.drops [4, 5]
    · subst is7
      rw [rng_len] at h7
      have h7 := h7.thaw (i := 3) rfl (by decide)
      have h7 : Holds { h0 := H, fs := [B] } σ7 H7 (GE6 gs n (.dat 2 (.int ((i + 1 : Nat) : Int))) (.dat 2 (dL (subK gs.length (i + 1) N))) .any .any .any) := h7
      refine w_forS (S := Unit) (m := 2) (xs := (levL gs.length (i + 1)).map dI) (.nm 5) (i_list (d_eq (d_sorted (ma := 2) (ds := (subK gs.length (i + 1) N).map dI) hu T.z_sorted (d_x 3 rfl) (srtb_dI _)) (by rw [sort_dI, ← hlv (i + 1) (by omega)]; rfl))) (by decide) (p_nm 5 nd) PassesOwn.never rfl h7 (fun _ => GE6 gs n (.dat 2 (.int ((i + 1 : Nat) : Int))) (.dat 2 (dL (subK gs.length (i + 1) N))) .any .any .any) (fun i' _ => ∀ j sm, j < i' → (levL gs.length (i + 1))[j]? = some sm → hitB gs n sm = false) () (fun j sm hj => by omega) (fun _ _ z => z) (fun j d _ B2 σ9 H9 hj is9 h9 => ?_) (fun _ σ9 H9 is9 h9 => ?_)
      · have hj' : j < (levL gs.length (i + 1)).length := by
          have := (List.getElem?_eq_some_iff.mp hj).1
          rw [List.length_map] at this; exact this
        have ej : (levL gs.length (i + 1))[j]? = some (levL gs.length (i + 1))[j] := List.getElem?_eq_getElem hj'
        rw [List.getElem?_map, ej] at hj
        generalize hgj : (levL gs.length (i + 1))[j] = sm at ej hj
        cases hj
        have hsm := lev_ok gs.length (i + 1) sm (List.mem_of_getElem? ej)
        have hGp := gl_pick hsp hsm hi3
        refine ⟨_, rfl, fun σ10 H10 h10 => ?_⟩
        have h10 : Holds { h0 := H, fs := B2 :: [B] } σ10 H10 (GE6 gs n (.dat 2 (.int ((i + 1 : Nat) : Int))) (.dat 2 (dL (subK gs.length (i + 1) N))) .any (.dat 2 (dI sm)) .any) := h10
        have ep : D.lst ((sm.filter fun _ => true).map (fun p => D.int (gs.getD p.toNat 0))) = dI (pickS gs sm) := by
          rw [List.filter_eq_self.mpr fun _ _ => rfl, pickS]
          show D.lst _ = D.lst _
          rw [List.map_map]; rfl
        have hll : (lstands (pickS gs sm) n).length = n + 1 := by
          unfold lstands
          rw [List.length_map]
          have I1 : Inv (lnexts (pickS gs sm)) (zeros (pickS gs sm)) n (lreachT (pickS gs sm) n n) := (table_ok (lpos hGp.all) (fun ks s => Iff.rfl) n).1
          exact I1.len
        refine w_if (b := hitB gs n sm) (t_eq (t_dne hu (d_ixL (d := dL (keysOf (rw_ (lreachT (pickS gs sm) n n) n))) (d_fn T.d__law_reached (ok_lreached T) hr pass0 (Pur.gives (pickS gs sm, n) ⟨hGp, by dsimp only; omega⟩) (a_cons (d_eq (d_lc (α := Int) (me := 2) (enc := D.int) (ys := sm) (tst := fun _ => true) (f := fun p => .int (gs.getD p.toNat 0)) [("_law_place", 6)] (.nm 6) (i_list (d_x 5 rfl)) (fun s H' C cl fp => p_nm 6 nd) (fun i x Z' hx hz => ⟨_, rfl, fun s H' C cl fp => pts_nilD, fun _ s H' C cl fp => ?el2⟩) (by rw [hsm.l]; omega) nd (bk__law_least (by decide +kernel))) ep) (a_cons (d_x 1 rfl) a_nil))) (d_x 1 rfl) ?hix) (d_lst a_nil (by decide)) (cq_dLs _ (n := 0)).eqOk (by decide)) ?hhit) h10 (fun hb H12 e12 h12 => ?_) fun hb H12 e12 h12 => ?_
        case el2 =>
          obtain ⟨b1, b2⟩ := hsm.b x (List.mem_of_getElem? hx)
          refine d_sc (d_ixL (d := .int (gs.getD x.toNat 0)) (d_x 0 rfl) (d_x 6 rfl) ?_) rfl
          have e : x = ((x.toNat : Nat) : Int) := by omega
          have hlt : x.toNat < gs.length := by omega
          rw [List.length_map, show ixN gs.length x = some x.toNat by
            have := ix_nat (n := gs.length) hlt
            rw [← e] at this; exact this, Option.bind_some, List.getElem?_map, List.getElem?_eq_getElem hlt, List.getD_eq_getElem?_getD, List.getElem?_eq_getElem hlt]; rfl
        case hix =>
          have hlt : n < (lstands (pickS gs sm) n).length := by omega
          have hlt2 : n < (lreachT (pickS gs sm) n n).length := by
            unfold lstands at hlt
            rw [List.length_map] at hlt; exact hlt
          rw [List.length_map, ix_nat hlt, Option.bind_some, List.getElem?_map, lstands, List.getElem?_map, at_rw hlt2]; rfl
        case hhit =>
          unfold hitB
          rw [← hit_both hGp n]
          show (!deq (.lst ((keysOf (rw_ (lreachT (pickS gs sm) n n) n)).map dI)) (.lst [])) = _
          rw [deq_nil]
          congr 1
          exact decide_eq_decide.mpr (by simp)
        · have hf : (levL gs.length (i + 1)).find? (hitB gs n) = some sm := by
            rw [List.find?_eq_some_iff_getElem]
            refine ⟨hb, j, hj', hgj, fun j2 hj2 => ?_⟩
            rw [is9 j2 _ hj2 (List.getElem?_eq_getElem (by omega))]; rfl
          rw [findSome_range (f := fun k => (levL gs.length (k + 1)).find? (hitB gs n)) hf is 3 hi3] at q
          exact w_ret (d_x 5 rfl) h12 fun v H13 e13 r => q v H13 (h12.h0x.trans e13) (ret_new (by decide) h12.h0x r)
        · refine wp_nil (wp_nil ⟨(), fun j2 sm2 hj2 h2 => ?_, h12.drops [5]⟩)
          rcases Nat.lt_or_ge j2 j with z | z
          · exact is9 j2 sm2 z h2
          · rw [show j2 = j by omega, ej] at h2
            cases h2
            exact hb
      · refine wp_nil ⟨0, fun j hj => ?_, h9.drops [2, 3]⟩
        rcases Nat.lt_or_ge j i with z | z
        · exact is j z
        · rw [show j = i by omega, List.find?_eq_none]
          intro sm hsm
          obtain ⟨i', hi', rfl⟩ := List.mem_iff_getElem.mp hsm
          rw [is9 i' _ (by rw [List.length_map]; exact hi') (List.getElem?_eq_getElem hi')]
          simp
  · have hf : (List.range 3).findSome? (fun k => (levL gs.length (k + 1)).find? (hitB gs n)) = none := List.findSome?_eq_none_iff.mpr fun j hj => is j (List.mem_range.mp hj)
    rw [hf] at q
    exact w_ret d_n h4 fun v H7 e7 r => q v H7 (h4.h0x.trans e7) (ret_new (by decide) h4.h0x r)
end
end R

set_option Elab.async false
set_option linter.all false
set_option maxRecDepth 100000
set_option maxHeartbeats 4000000
/-! DL55: any([elt for x in a list of data]), elt with effects on what stands at told addresses; or, its second with effects. -/
namespace DL
open PySem L2
section
variable {X : Cx} {iter elt : Expr} {pos pos' : Pos} {Z : Fr} {Γ : List SV} {m j : Nat} {scope : Scope} {tel : TE} {α : Type} {ys : List α} {enc : α → D}
def tLJ (Z : Fr) (Γ : List SV) (J : Hp → Prop) (chg : List Addr) (ys : List α) (enc : α → D) (f : α → Bool) (j : Nat) (tel : TE) (bd : V → Hp → VK → Prop) : TE := fun σ H Q => Holds Z σ H Γ ∧ J H ∧
  (∀ (y : α) (x : V) (H2 : Hp) (R : VK), y ∈ ys → Rep (reg chg hn H2) x (enc y) → J H2 → (∀ x o, x ∉ chg → H x = some o → H2 x = some o) →
    (∀ H3, J H3 → (∀ x o, x ∉ chg → H2 x = some o → H3 x = some o) → R (.bl (f y)) H3) → tel (σ.set j (some x)) H2 R) ∧
  ∀ D H', J H' → (∀ x o, x ∉ chg → H x = some o → H' x = some o) → H' D = some (.lst ((ys.map f).map V.bl)) → bd (.ref D) H' Q
theorem d_lcLJ {x : Str} {xp : Pos} {J : Hp → Prop} {chg : List Addr} {f : α → Bool} (j : Nat) (hi : PI X (.Name x xp) iter (tI Z Γ m (ys.map enc))) (hlen : ys.length ≤ 1000000)
    (hJ : ∀ H H', J H → (∀ q us, H q = some (.tup us) → H' q = some (.tup us)) → (∀ c ∈ chg, H' c = H c) → J H') (hchg : ∀ H, J H → ∀ c ∈ chg, H c ≠ none) (hx : ∀ c ∈ chg, c ∈ Z.ex)
    (hg : ∀ (s : Shared) (H' : Hp) (C : Addr) (cl : List (Str × Addr)) (fp : List Addr), PG (blkX X scope s H' C cl fp) (.Name x xp) (gP X.K (.nm j))) (he : ∀ (s : Shared) (H' : Hp) (C : Addr) (cl : List (Str × Addr)) (fp : List Addr), PE (blkX X scope s H' C cl fp) elt tel) (own : List (Str × Nat))
    (hN : X.N.Nodup) (ok : BlkOk X.N X.env.scope scope own) (hm : 1 ≤ m := by decide) (how : own.map (·.2) = [j] := by rfl) (hc : X.calm = true := by rfl) (hs : ∀ x, foldedSetIterable iter X.env x = pure x := by intro _; rfl) :
    PE X (.ListComp elt [⟨.Name x xp, iter, [], 0⟩] scope pos) (tLJ Z Γ J chg ys enc f j tel fun v H Q => Q v H) := by
  refine pe_imp (pe_lc (tt := tYes) hc hN hi ok hg (fun s H C cl fp => pts_nil) he hs) fun σ H Q h => ?_
  rw [how]
  obtain ⟨h0, j0, hel, h⟩ := h
  refine ⟨h0, fun It H1 e1 y D hD => ?_⟩
  have keep0 : ∀ x o, x ∉ chg → H x = some o → H1 x = some o := fun x o _ z => e1 x o z
  have j1 : J H1 := hJ H H1 j0 (fun q us z => e1 _ _ z) fun c hc => by
    cases z : H c with
    | none => exact absurd z (hchg H j0 c hc)
    | some o => exact e1 c o z
  have hBO : ∀ l ∈ Z.O σ Γ, rg m (Z.O σ Γ) Z.h0 H H1 l = none := rg_off hm
  have hBn : ∀ a o, rg m (Z.O σ Γ) Z.h0 H H1 a = some o → ntb o := fun _ _ => rg_nt
  have hBl : Ex (rg m (Z.O σ Γ) Z.h0 H H1) H1 := rg_le
  generalize rg m (Z.O σ Γ) Z.h0 H H1 = B at y hBO hBn hBl
  have hBc : ∀ a o, B a = some o → a ∉ chg := fun a o z w => by
    have := hBO a (List.mem_append_left _ (hx a w))
    rw [z] at this; cases this
  have hDc : D ∉ chg := fun z => hchg H1 j1 D z hD
  refine ⟨fun i n Hi => n = ys.length - i ∧ i ≤ ys.length ∧ J Hi ∧ (∀ x o, x ∉ chg → H1 x = some o → Hi x = some o) ∧ Hi D = some (.lst (((ys.take i).map f).map V.bl)),
    ⟨ys.length, by simp, Nat.zero_le _, hJ H1 _ j1 (fun q us z => Ex.new hD _ _ z) (fun c hc => upd_ne fun e => hDc (by rw [← e]; exact hc)), fun x o _ z => Ex.new hD _ _ z, upd_same⟩, ?_⟩
  rintro i n Hi ⟨rfl, hi', ji, ex, hacc⟩
  have hBi : Ex B Hi := fun a o z => ex a o (hBc a o z) (hBl a o z)
  obtain ⟨y1, y2⟩ := y i Hi hBi
  by_cases hlt : i < ys.length
  · have gi : ys[i]? = some ys[i] := List.getElem?_eq_getElem hlt
    obtain ⟨hgo, hy⟩ := y1 (enc ys[i]) (by rw [List.getElem?_map, gi]; rfl)
    generalize ys[i] = yi at gi hy
    refine .inr ⟨hgo, fun Hj => i + 1 ≤ ys.length ∧ J Hj ∧ (∀ x o, x ∉ chg → H1 x = some o → Hj x = some o) ∧ Hj D = some (.lst (((ys.take (i + 1)).map f).map V.bl)), fun Hj q => ⟨ys.length - (i + 1), by omega, rfl, q⟩, fun x H2 q => ?_⟩
    obtain ⟨e2, r⟩ := hy x H2 q
    have j2 : J H2 := hJ Hi H2 ji (fun q us z => e2 _ _ z) fun c hc => by
      cases z : Hi c with
      | none => exact absurd z (hchg Hi ji c hc)
      | some o => exact e2 c o z
    have rr := r (reg chg hn H2) (fun a o z => reg_has (hBc a o z) rfl (e2 _ _ (hBi _ _ z)) (hBn a o z)) (fun a o z => by
      obtain ⟨z1, z2, z3, z4⟩ := reg_some4 z
      exact reg_has (fun w => hchg Hi ji a w z2) rfl z3 z4)
    unfold gP
    refine ⟨wipe_one.trans wipe_wipe, ?_⟩
    unfold tYes
    dsimp only
    rw [if_pos rfl]
    have eσ : (wipe σ [j]).set j (some x) = σ.set j (some x) := by
      unfold wipe wipe
      rw [List.set_set]
    rw [eσ]
    refine hel yi x H2 _ (List.mem_of_getElem? gi) rr j2 (fun x o hx hz => e2 _ _ (ex x o hx (keep0 x o hx hz))) fun H3 j3 keep3 => ?_
    have h3 := keep3 D _ hDc (e2 _ _ hacc)
    refine ⟨_, h3, ?_, hlt, ?_, fun x o hx hz => ?_, ?_⟩
    · rw [List.length_map, List.length_map, List.length_take]
      have h4 : 1000000 < sizeLine := by decide
      omega
    · exact hJ H3 _ j3 (fun q us z => by rw [upd_ne fun e => by rw [e, h3] at z; cases z]; exact z) fun c hc => upd_ne fun e => hDc (by rw [← e]; exact hc)
    · rw [upd_ne fun e => by rw [e, hD] at hz; cases hz]
      exact keep3 x o hx (e2 _ _ (ex x o hx hz))
    · rw [upd_same, take_succ_get gi, List.map_append, List.map_append]; rfl
  · have e : i = ys.length := by omega
    subst e
    refine .inl ⟨y2 (by rw [List.length_map]; exact Nat.le_refl _), h D Hi ji (fun x o hx hz => ex x o hx (keep0 x o hx hz)) ?_⟩
    rw [hacc, List.take_length]
theorem e_anyLJ {e : Expr} {J : Hp → Prop} {chg : List Addr} {f : α → Bool} (hm : X.mg "any" = none) (ha : PE X e (tLJ Z Γ J chg ys enc f j tel fun v H Q => Q v H)) (hc : X.calm = true := by rfl) (hg : Gl X "any" := by rfl) (he : starEach [e] X.env = (false, eval e X.env) :: starEach [] X.env := by rfl) {p : Pos} (hpl : (backTo pos (starEach [] X.env)).any (·.1) = false := by rfl) :
    PE X (.Call (.Name "any" p) [e] [] pos) (tLJ Z Γ J chg ys enc f j tel fun _ H Q => Q (.bl (ys.any f)) H) :=
  pe_imp (pe_callB (cr_any hc) hg hm (by decide +kernel) (pa_cons ha pa_nil he) (by decide) (by decide) he hpl) fun σ H Q ⟨h0, j0, hel, h⟩ => ⟨h0, j0, hel, fun D H' j' keep hD => ⟨_, ys.map f, rfl, .of hD, by
    have := h D H' j' keep hD
    rw [List.any_map]
    exact this⟩⟩
variable {c a b : Expr} {as bs rest : List Stmt} {E : Ends} {σ : L2.St} {H : Hp}
theorem w_ifLJ {J : Hp → Prop} {chg : List Addr} {f : α → Bool} {b : Bool} (hc : PE X c (tLJ Z Γ J chg ys enc f j tel fun _ H Q => Q (.bl b) H)) (h : Holds Z σ H Γ) (hJ : J H)
    (hel : ∀ (y : α) (x : V) (H2 : Hp) (R : VK), y ∈ ys → Rep (reg chg hn H2) x (enc y) → J H2 → (∀ x o, x ∉ chg → H x = some o → H2 x = some o) →
      (∀ H3, J H3 → (∀ x o, x ∉ chg → H2 x = some o → H3 x = some o) → R (.bl (f y)) H3) → tel (σ.set j (some x)) H2 R)
    (k1 : b = true → ∀ H', J H' → (∀ x o, x ∉ chg → H x = some o → H' x = some o) → wp X as { E with nx := fun σ' H' => wp X rest E σ' H' } σ H') (k2 : b = false → ∀ H', J H' → (∀ x o, x ∉ chg → H x = some o → H' x = some o) → wp X bs { E with nx := fun σ' H' => wp X rest E σ' H' } σ H')
    (he : ∀ whole, isTrue c X.env whole = (do let v ← whole; standAt c.pos; holding [v] (truthy v)) := by intro _; rfl) : wp X (.If c as bs pos :: rest) E σ H := by
  refine wp_cons (ps_if (pt_val hc he) (pss_wp as) (pss_wp bs)) ⟨h, hJ, hel, fun D H' j' keep _ => ⟨b, rfl, ?_⟩⟩
  cases b with
  | true => exact iteT (k1 rfl H' j' keep)
  | false => exact iteF (k2 rfl H' j' keep)
/-- x = a or b, b with effects -/
theorem w_setOr {p : Bool} {ma : Nat} {tb : TE} (i : Nat) {x : Str} {px pb : Pos} (ha : PE X a (tD Z Γ ma (.bl p))) (hb : p = false → PE X b tb) (h : Holds Z σ H Γ) (k1 : p = true → ∀ H', Ex H H' → Holds Z σ H' Γ → wp X rest E (σ.set i (some (.bl true))) H')
    (k2 : p = false → ∀ H', Ex H H' → Holds Z σ H' Γ → tb σ H' fun v H2 => wp X rest E (σ.set i (some v)) H2)
    (hN : X.N.Nodup) (hi : X.N[i]? = some x := by rfl) (hx : Loc X.env.scope x := by first | exact .inl rfl | exact .inr rfl) (hf : X.fn x = true ∨ X.env.scope.names.lookup x = some .local := by first | exact .inl rfl | exact .inr rfl)
    (hs : swapsWith (.BoolOp .Or [a, b] pb) (some (.Name x px)) pos.line X.env = pure false := by rfl) : wp X (.Assign [.Name x px] (.BoolOp .Or [a, b] pb) pos :: rest) E σ H := by
  cases p with
  | true =>
    refine wp_cons (ps_asg (pe_or (tb := fun _ _ _ => False) ha (pe_no fun _ _ _ z => z)) (pg_name hN hi hx hf) hs) ⟨h, fun v H' e r => ?_⟩
    cases r
    exact ⟨true, rfl, by rw [if_pos rfl]; exact k1 rfl H' e (h.grow e)⟩
  | false =>
    refine wp_cons (ps_asg (pe_or ha (pe_one (hb rfl))) (pg_name hN hi hx hf) hs) ⟨h, fun v H' e r => ?_⟩
    cases r
    exact ⟨false, rfl, iteF (k2 rfl H' e (h.grow e))⟩
end
end DL

set_option Elab.async false
set_option linter.all false
set_option maxRecDepth 100000
set_option maxHeartbeats 4000000
namespace R
open PySem L2 DL M
section
variable {P : Program} {w : World} {K : PySem.W.Frag} {mg : Str → Option Value} {base : Heap}
def sp_lcan (P : Program) (w : World) (m : Nat) : Sp := fun vs H Q _ => ∃ (gs st : List Int) (n : Nat) (a : Addr) (row : NRow) (gv bv : V), vs = [gv, .ref a, bv, .int (n : Int)] ∧ Gl gs ∧ 1 ≤ n ∧ n ≤ m ∧ n ≤ 40 ∧ St gs st ∧ NI (lnexts gs) gs row ∧
  (gN P w 1 a row).P (reg [a] hn H) (only [a] H) ∧ Rep (reg [a] hn H) gv (dI gs) ∧ Rep (reg [a] hn H) bv (dI st) ∧
  ∀ H' row', (∀ q o, q ≠ a → H q = some o → H' q = some o) → (gN P w 1 a row').P (reg [a] hn H') (only [a] H') → NI (lnexts gs) gs row' → (∀ k : NK, (n : Int) < k.2 → nGet row' k = nGet row k) → Q (.bl (canB (lnexts gs) n st)) H'
theorem e_lcan {X : Cx} {e1 e2 e3 e4 : Expr} {p pos : Pos} {Z : Fr} {Γ : List SV} {j m mk n : Nat} {gs st : List Int} {a : Addr} (T : Txt X.K X.mg) (F : FnOk X.prog X.w X.K X.mg X.base CX0 mk T.d__law_can.f T.d__law_can.fd ["_law_glasses_here", "_law_known", "_law_stand", "_law_ticks"] (sp_lcan X.prog X.w m)) (hr : Room j X.A)
    (h1 : PE X e1 (tD Z Γ 1 (dI gs))) (h2 : PE X e2 (tR Z Γ (.ref a))) (h3 : PE X e3 (tD Z Γ 1 (dI st))) {m4 : Nat} (h4 : PE X e4 (tD Z Γ m4 (.int (n : Int)))) (hk : mk ≤ j) (hg : L2.Gl X "_law_can" := by rfl)
    (q1 : starEach [e1, e2, e3, e4] X.env = (false, eval e1 X.env) :: starEach [e2, e3, e4] X.env := by rfl) (q2 : starEach [e2, e3, e4] X.env = (false, eval e2 X.env) :: starEach [e3, e4] X.env := by rfl)
    (q3 : starEach [e3, e4] X.env = (false, eval e3 X.env) :: starEach [e4] X.env := by rfl) (q4 : starEach [e4] X.env = (false, eval e4 X.env) :: starEach [] X.env := by rfl) (hpl : (backTo pos (starEach [e2, e3, e4] X.env)).any (·.1) = false := by rfl) :
    PE X (.Call (.Name "_law_can" p) [e1, e2, e3, e4] [] pos) (fun σ H Q => Holds Z σ H Γ ∧ ∀ gv bv H1, Ex H H1 → Holds Z σ H1 Γ → Rep (rg 1 (Z.O σ Γ) Z.h0 Z.h0 H1) gv (dI gs) → Rep (rg 1 (Z.O σ Γ) Z.h0 Z.h0 H1) bv (dI st) → sp_lcan X.prog X.w m [gv, .ref a, bv, .int (n : Int)] H1 Q E0) :=
  pe_imp (pe_call F (hr.mono hk) hg T.d__law_can.g T.d__law_can.F.kp T.d__law_can.b .nil pass0 (pa_cons h1 (pa_cons h2 (pa_cons h3 (pa_cons h4 pa_nil q4) q3) q2) q1) (by decide) q1 hpl) fun σ H Q h => ⟨h.1, fun gv H1 e1 r1 => by
    have g1 := h.1.grow e1
    refine ⟨g1, fun H3 e3 => ?_⟩
    have g3 := g1.grow e3
    refine ⟨g3, fun bv H4 e4 r4 => ?_⟩
    have g4 := g3.grow e4
    refine ⟨g4, fun nv H5 e5 r5 => ?_⟩
    cases r5
    exact h.2 gv bv H5 (((e1.trans e3).trans e4).trans e5) (g4.grow e5) (r1.mono (rg_ex (m := 1) (fun _ z => .inl z) (Ex.refl _) ((e3.trans e4).trans e5))) (r4.mono (rg_ex (m := 1) (fun _ z => .inl z) (Ex.refl _) e5))⟩
/-- what was changed behind is told anew: the hidden dict alone -/
theorem Holds.can {Z : Fr} {σ : L2.St} {H H' : Hp} {Γ : List SV} {a : Addr} {row row' : NRow} (h : Holds { Z with ex := [a], gs := [gN P w 1 a row] } σ H Γ) (hz : noz Γ = true) (keep : ∀ q o, q ≠ a → H q = some o → H' q = some o) (t : (gN P w 1 a row').P (reg [a] hn H') (only [a] H')) (ho : ∀ l ∈ owns σ Γ, ∀ us, H' l ≠ some (.tup us)) : Holds { Z with ex := [a], gs := [gN P w 1 a row'] } σ H' Γ := by
  obtain ⟨ks, k1, k2, k3⟩ := t
  have ha : H' a = some (ndO P w a ks) := (only_some k2).2
  have hO : a ∈ Fr.O { Z with ex := [a], gs := [gN P w 1 a row] } σ Γ := List.mem_append_left _ List.mem_cons_self
  refine h.change (as' := []) (gs' := [gN P w 1 a row']) (fun q o hq hz _ => keep q o (fun y => hq (List.mem_singleton.mpr y)) hz) hz (fun x hx => by rw [List.mem_singleton.mp hx, ha]; simp) (fun x o hz' => keep x o (fun y => ?_) (h.h0x x o hz')) (fun x hx => by cases hx) (fun g hg => ?_) (List.pairwise_singleton _ _)
  · have h1 := (h.ext _ (.inl rfl)).2 a hO
    have h2 : Z.h0 x = some o := hz'
    have h1 : Z.h0 a = none := h1
    rw [y, h1] at h2; cases h2
  · rw [List.mem_singleton.mp hg]
    refine ⟨fun x hx => hx, Nat.le_refl 1, ks, k1, k2, fun x hx => nD_re (k3 x hx) fun q us z => ?_⟩
    obtain ⟨z1, z2, z3, z4⟩ := reg_some4 z
    refine reg_has (fun y => ?_) rfl z3 z4
    rcases List.mem_append.mp y with y | y
    · exact z1 y
    · exact ho q y us z3
abbrev GK (gs : List Int) (a : Addr) (st : List Int) (n : Nat) (b c d e f : SV) : List SV := [.dat 1 (dI gs), .raw (.ref a), .dat 1 (dI st), .dat 1 (.int (n : Int)), b, c, d, e, f]
/-- found so far -/
def fnd (nx : List Int → List Nx) (n : Nat) (xs : List Nx) : Bool := xs.any fun x => decide (x.2.1 ≤ (n : Int)) && canB nx (n - x.2.1.toNat) x.2.2
theorem fnd_all {gs st : List Int} {n : Nat} (hn : n ≠ 0) : fnd (lnexts gs) n (lnexts gs st) = canB (lnexts gs) n st := by
  rw [canB_succ lpos_all hn]
  unfold fnd nxW
  rw [List.any_filter]
  refine Bool.eq_iff_iff.mpr ?_
  rw [List.any_eq_true, List.any_eq_true]
  have key : ∀ x ∈ lnexts gs st, decide (x.2.1 ≤ (n : Int)) = decide (x.2.1.toNat ≤ n) := fun x hx => by
    have := lpos_all st x hx
    exact decide_eq_decide.mpr (by omega)
  constructor
  · rintro ⟨x, hx, e⟩
    exact ⟨x, hx, by rw [← key x hx]; exact e⟩
  · rintro ⟨x, hx, e⟩
    exact ⟨x, hx, by rw [key x hx]; exact e⟩
theorem ok_lcan (T : Txt K mg) : ∀ m, FnOk P w K mg base CX0 (m + 4) T.d__law_can.f T.d__law_can.fd ["_law_glasses_here", "_law_known", "_law_stand", "_law_ticks"] (sp_lcan P w m)
  | 0 => by
    refine Fun.okC (k := 3) T.d__law_can.F sc__law_can (fun vs H Q E h => by obtain ⟨gs, st, n, a, row, gv, bv, rfl, _⟩ := h; rfl) fun cdv A outer s0 H vs Q E hcd hr h => ?_
    obtain ⟨gs, st, n, a, row, gv, bv, rfl, hG, hn1, hn0, _⟩ := h
    omega
  | m + 1 => by
    have F := ok_lcan T m
    refine Fun.okC (k := m + 4) T.d__law_can.F sc__law_can (fun vs H Q E h => by obtain ⟨gs, st, n, a, row, gv, bv, rfl, _⟩ := h; rfl) fun cdv A outer s0 H vs Q E hcd hr h => ?_
    obtain ⟨gs, st, n, a, row, gv, bv, rfl, hG, hn1, hnm, hn4, hst, ni, tab, rgv, rbv, q⟩ := h
    have nd := sc__law_can.nd
    have hu := hr.units
    have hl3 := hG.hi
    have h := holds_startO (N := n__law_can) (vs := [gv, .ref a, bv, .int (n : Int)]) (ex := [a]) (gs := [gN P w 1 a row]) (H := H) (.dat rgv (.raw (.dat rbv (.dat (.int _) .nil)))) (show 4 ≤ 9 by decide) (fun b hb => by
      rw [List.mem_singleton.mp hb]
      obtain ⟨ks, _, k2, _⟩ := tab
      rw [(only_some k2).2]; simp) (fun g hg => by
      rw [List.mem_singleton.mp hg]
      exact ⟨fun a ha => ha, Nat.le_refl 1, tab⟩) (List.pairwise_singleton _ _)
    have h : Holds { h0 := offs [a] H, ex := [a], gs := [gN P w 1 a row] } (L2.start n__law_can [gv, .ref a, bv, .int (n : Int)]) H (GK gs a st n .any .any .any .any .any) := h
    have fin : ∀ (H3 : Hp) (σ3 : L2.St) (Γ3 : List SV) (row3 : NRow), Holds { h0 := offs [a] H, ex := [a], gs := [gN P w 1 a row3] } σ3 H3 Γ3 → NI (lnexts gs) gs row3 → (∀ k : NK, (n : Int) < k.2 → nGet row3 k = nGet row k) → Q (.bl (canB (lnexts gs) n st)) H3 := fun H3 σ3 Γ3 row3 h3 ni3 hk3 => by
      refine q H3 row3 (fun p o hp ho' => h3.h0x p o (by show offs [a] H p = some o; rw [offs_out (fun z => hp (List.mem_singleton.mp z))]; exact ho')) ?_ ni3 hk3
      exact (gN P w 1 a row3).mono (reg_ex (fun a ha => .inl (List.mem_append_left _ ha)) (Ex.refl _) (Ex.refl _)) (h3.gok _ List.mem_cons_self).2.2
    have hgt : gN P w 1 a row ∈ [gN P w 1 a row] := List.mem_cons_self
    refine w_set (d := nD (st, (n : Int))) 4 (d_tup (a_cons (d_tupleS T.z_tuple (d_x 2 rfl) (scL_ints _)) (a_cons (d_x 3 rfl) a_nil)) two_sz) h (fun σ1 H1 e1 h1 => ?_) nd
    have h1 : Holds { h0 := offs [a] H, ex := [a], gs := [gN P w 1 a row] } σ1 H1 (GK gs a st n (.dat 1 (nD (st, (n : Int)))) .any .any .any .any) := h1
    refine w_if (t_notInN (k := (st, (n : Int))) hu hgt (d_x 4 rfl) (r_x 1 rfl)) h1 (fun hb H2 e2 h2 => ?_) fun hb H2 e2 h2 => ?_
    · have hnone : nGet row (st, (n : Int)) = none := by
        cases z : nGet row (st, (n : Int)) with
        | none => rfl
        | some d => rw [z] at hb; cases hb
      refine w_set (m := 3) (d := .bl (fnd (lnexts gs) n ((lnexts gs st).take 0))) 5 (d_eq (d_eqi (d_x 3 rfl) d_i) (by rw [decide_eq_false (by omega)]; rfl)) h2 (fun σ3 H3 e3 h3 => ?_) nd
      have h3 : Holds { h0 := offs [a] H, ex := [a], gs := [gN P w 1 a row] } σ3 H3 (GK gs a st n (.dat 1 (nD (st, (n : Int)))) (.dat 2 (.bl (fnd (lnexts gs) n ((lnexts gs st).take 0)))) .any .any .any) := h3
      refine w_forZ (Z := { h0 := offs [a] H, ex := [a], gs := [gN P w 1 a row] }) (S := NRow × Bool) (m := 3) (xs := (lnexts gs st).map dN) (.tp [.nm 6, .nm 7, .nm 8]) (i_list (d_fn T.d__law_nexts (ok_lnexts T) hr pass0 (Pur.gives (gs, st) ⟨hst.len, by dsimp only; omega⟩) (a_cons (d_x 0 rfl) (a_cons (d_x 2 rfl) a_nil)) (by omega))) (by decide) (p_tp (q_cons (p_nm 6 nd) (q_cons (p_nm 7 nd) (q_cons (p_nm 8 nd) q_nil)))) PassesOwn.never rfl h3 (fun s => [gN P w 1 a s.1]) (fun s => GK gs a st n (.dat 1 (nD (st, (n : Int)))) (.dat 2 (.bl s.2)) .any .any .any)
        (fun i s => NI (lnexts gs) gs s.1 ∧ nGet s.1 (st, (n : Int)) = none ∧ (∀ k : NK, (n : Int) < k.2 → nGet s.1 k = nGet row k) ∧ s.2 = fnd (lnexts gs) n ((lnexts gs st).take i)) (row, fnd (lnexts gs) n ((lnexts gs st).take 0)) ⟨ni, hnone, fun _ _ => rfl, rfl⟩ rfl (fun _ _ z => z) (fun i d s B σ4 H4 hi is h4 => ?_) (fun s σ4 H4 is h4 => ?_)
      · obtain ⟨row4, fb⟩ := s
        obtain ⟨ni4, hn4', hk4, hs2⟩ := is
        dsimp only at ni4 hn4' hk4 hs2 h4
        have hi' : i < (lnexts gs st).length := by
          have := (List.getElem?_eq_some_iff.mp hi).1
          rw [List.length_map] at this; exact this
        have ei : (lnexts gs st)[i]? = some (lnexts gs st)[i] := List.getElem?_eq_getElem hi'
        rw [List.getElem?_map, ei] at hi
        generalize (lnexts gs st)[i] = x at ei hi
        cases hi
        have hxm := List.mem_of_getElem? ei
        have hx1 := lpos_all st x hxm
        have hxs := (next_spec hG.all hst hxm).2.2.2.2.2
        have efn : fnd (lnexts gs) n ((lnexts gs st).take (i + 1)) = (fb || (decide (x.2.1 ≤ (n : Int)) && canB (lnexts gs) (n - x.2.1.toNat) x.2.2)) := by
          rw [take_succ_get ei, hs2]
          unfold fnd
          rw [List.any_append, List.any_cons, List.any_nil, Bool.or_false]
        refine ⟨_, rfl, fun σ5 H5 h5 => ?_⟩
        have h5 : Holds { h0 := offs [a] H, fs := [B], ex := [a], gs := [gN P w 1 a row4] } σ5 H5 (GK gs a st n (.dat 1 (nD (st, (n : Int)))) (.dat 2 (.bl fb)) (.dat 2 (dI x.1)) (.dat 2 (.int x.2.1)) (.dat 2 (dI x.2.2))) := h5
        refine w_if (b := !fb && decide (x.2.1 ≤ (n : Int))) (t_bool (w_and (t_not (t_val (d_x 5 rfl))) fun _ => w_and1 (t_le (d_x 7 rfl) (d_x 3 rfl)))) h5 (fun hb6 H6 e6 h6 => ?_) fun hb6 H6 e6 h6 => ?_
        · obtain ⟨c1, c2⟩ := Bool.and_eq_true_iff.mp hb6
          have c2' := of_decide_eq_true c2
          have hfb : fb = false := by cases fb <;> first | rfl | cases c1
          subst hfb
          rw [Bool.false_or, c2, Bool.true_and] at efn
          have hsub : (n : Int) - x.2.1 = ((n - x.2.1.toNat : Nat) : Int) := by omega
          refine w_setOr (p := decide (x.2.1 = (n : Int))) 5 (d_eqi (d_x 7 rfl) (d_x 3 rfl)) (fun hp => e_lcan (Z := { h0 := offs [a] H, fs := [B], ex := [a], gs := [gN P w 1 a row4] }) (Γ := GK gs a st n (.dat 1 (nD (st, (n : Int)))) (.dat 2 (.bl false)) (.dat 2 (dI x.1)) (.dat 2 (.int x.2.1)) (.dat 2 (dI x.2.2))) (n := n - x.2.1.toNat) (st := x.2.2) (gs := gs) (a := a) T F hr (d_x 0 rfl) (r_x 1 rfl) (d_w (d_x 8 rfl) (show 1 ≤ 2 by decide)) (d_z (d_sub (d_x 3 rfl) (d_x 7 rfl)) hsub) (Nat.le_refl _)) h6 (fun hp H7 e7 h7 => ?_) (fun hp H7 e7 h7 => ?_) nd
          · have hp' := of_decide_eq_true hp
            rw [show n - x.2.1.toNat = 0 by omega, canB_zero] at efn
            refine wp_nil (wp_nil ⟨(row4, true), ⟨ni4, hn4', hk4, efn.symm⟩, ?_⟩)
            exact (h7.dat (m := 2) 5 (.bl true)).drops [6, 7, 8]
          · have hp' := of_decide_eq_false hp
            refine ⟨h7, fun gv bv H8 e8 h8 r1 r2 => ?_⟩
            have sub : Ex (rg 1 (Fr.O { h0 := offs [a] H, fs := [B], ex := [a], gs := [gN P w 1 a row4] } σ5 (GK gs a st n (.dat 1 (nD (st, (n : Int)))) (.dat 2 (.bl false)) (.dat 2 (dI x.1)) (.dat 2 (.int x.2.1)) (.dat 2 (dI x.2.2)))) (offs [a] H) (offs [a] H) H8) (reg [a] hn H8) := reg_ex (fun y hy => .inl (List.mem_append_left _ hy)) (Ex.refl _) (Ex.refl _)
            refine ⟨gs, x.2.2, n - x.2.1.toNat, a, row4, gv, bv, rfl, hG, by omega, by omega, by omega, hxs, ni4, (gN P w 1 a row4).mono sub (h8.gok _ List.mem_cons_self).2.2, r1.mono sub, r2.mono sub, fun H9 row9 keep9 tab9 ni9 hk9 => ?_⟩
            have h9 := Holds.can (Z := { h0 := offs [a] H, fs := [B] }) h8 rfl keep9 tab9 (fun l hl => by
              obtain ⟨i', m', ds', _, e⟩ := mem_owns.mp hl
              rcases i' with _ | _ | _ | _ | _ | _ | _ | _ | _ | i' <;> simp at e)
            refine wp_nil (wp_nil ⟨(row9, canB (lnexts gs) (n - x.2.1.toNat) x.2.2), ⟨ni9, ?_, fun k hk => ?_, efn.symm⟩, ?_⟩)
            · rw [hk9 (st, (n : Int)) (by dsimp only; omega)]; exact hn4'
            · rw [hk9 k (by omega)]; exact hk4 k hk
            · exact (h9.dat (m := 2) 5 (.bl _)).drops [6, 7, 8]
        · have efb : fnd (lnexts gs) n ((lnexts gs st).take (i + 1)) = fb := by
            rw [efn]
            cases fb with
            | true => rfl
            | false =>
              rw [show decide (x.2.1 ≤ (n : Int)) = false by simpa using hb6]; rfl
          exact wp_nil (wp_nil ⟨(row4, fb), ⟨ni4, hn4', hk4, efb.symm⟩, h6.drops [6, 7, 8]⟩)
      · obtain ⟨row4, fb⟩ := s
        obtain ⟨ni4, hn4', hk4, hs2⟩ := is
        dsimp only at ni4 hn4' hk4 hs2 h4
        rw [List.length_map, List.take_length, fnd_all (by omega)] at hs2
        have hlen := ni4.len hG
        refine w_putN (k := (st, (n : Int))) (b := fb) hu 0 rfl (d_x 5 rfl) (r_x 1 rfl) (d_x 4 rfl) hn4' (by omega) h4 fun H5 h5 => ?_
        have h5 : Holds { h0 := offs [a] H, ex := [a], gs := [gN P w 1 a (row4 ++ [((st, (n : Int)), fb)])] } σ4 H5 (GK gs a st n (.dat 1 (nD (st, (n : Int)))) (.dat 2 (.bl fb)) .any .any .any) := h5
        refine wp_nil ?_
        refine w_ret (d_getN (mr := 3) (b := fb) (k := (st, (n : Int))) (row := row4 ++ [((st, (n : Int)), fb)]) (a := a) hu List.mem_cons_self (r_x 1 rfl) (d_x 4 rfl) (by rw [nGet_push _ _ _ _ hn4', if_pos rfl])) h5 fun v H6 e6 r6 => ?_
        cases r6
        rw [hs2]
        refine fin H6 _ _ _ (h5.grow e6) (ni4.put hn4' (by dsimp only; omega) (by dsimp only; omega) hst (by dsimp only; rw [Int.toNat_natCast]; exact hs2)) fun k hk => ?_
        rw [nGet_push _ _ _ _ hn4', if_neg (fun e => by rw [e] at hk; dsimp only at hk; omega)]
        exact hk4 k hk
    · obtain ⟨b, hb'⟩ : ∃ b, nGet row (st, (n : Int)) = some b := by
        cases z : nGet row (st, (n : Int)) with
        | none => rw [z] at hb; cases hb
        | some b => exact ⟨b, rfl⟩
      have eb := ni.get hb'
      dsimp only at eb
      rw [Int.toNat_natCast] at eb
      refine wp_nil ?_
      refine w_ret (d_getN (mr := 3) (b := b) (k := (st, (n : Int))) (row := row) (a := a) hu List.mem_cons_self (r_x 1 rfl) (d_x 4 rfl) hb') h2 fun v H6 e6 r6 => ?_
      cases r6
      rw [eb]
      exact fin H6 _ _ _ (h2.grow e6) ni fun _ _ => rfl
end
end R

set_option Elab.async false
set_option linter.all false
set_option maxRecDepth 100000
set_option maxHeartbeats 4000000
/-! DL56: x = {}, a dict keyed by pairs. -/
namespace DL
open PySem L2
section
variable {X : Cx} {pos : Pos} {rest : List Stmt} {E : Ends} {σ : L2.St} {H : Hp} {Z : Fr} {Γ : List SV}
theorem w_newN {dp p : Pos} {x : Str} (i : Nat) (h : Holds Z σ H Γ) (k : ∀ p σ' H', Ex H H' → Holds { Z with ex := p :: Z.ex, gs := Z.gs ++ [gN X.prog X.w 1 p []] } σ' H' (Γ.set i (.raw (.ref p))) → wp X rest E σ' H')
    (hN : X.N.Nodup) (hi : X.N[i]? = some x := by rfl) (hx : Loc X.env.scope x := by first | exact .inl rfl | exact .inr rfl) (hf : X.fn x = true ∨ X.env.scope.names.lookup x = some .local := by first | exact .inl rfl | exact .inr rfl)
    (hs : swapsWith (.Dict [] [] dp) (some (.Name x p)) pos.line X.env = pure false := by rfl) : wp X (.Assign [.Name x p] (.Dict [] [] dp) pos :: rest) E σ H :=
  wp_cons (ps_asg pe_dnewN (pg_name hN hi hx hf) hs) fun p hp => by
    have g2 := h.addG (g := gN X.prog X.w 1 p []) (H' := upd H p (ndO X.prog X.w p [])) (Ex.new hp) (fun x hx => by
      rw [List.mem_singleton.mp hx]
      exact ⟨hp, by rw [upd_same]; simp⟩) (Nat.le_refl 1) ⟨[], rfl, by show only [p] _ p = _; rw [only_at List.mem_cons_self, upd_same], fun x hx => by cases hx⟩
    exact k p _ _ (Ex.new hp) (g2.raw i (.ref p))
end
end DL

set_option Elab.async false
set_option linter.all false
set_option maxRecDepth 100000
set_option maxHeartbeats 4000000
namespace R
open PySem L2 DL M
section
variable {P : Program} {w : World} {K : PySem.W.Frag} {mg : Str → Option Value} {base : Heap}
def tLcan (P : Program) (w : World) (i0 i1 i2 i3 : Nat) : TE := fun σ H Q => ∃ v0 v1 v2 v3, σ[i0]? = some (some v0) ∧ σ[i1]? = some (some v1) ∧ σ[i2]? = some (some v2) ∧ σ[i3]? = some (some v3) ∧ sp_lcan P w 40 [v0, v1, v2, v3] H Q E0
theorem e_lcanV {X : Cx} {j : Nat} {x0 x1 x2 x3 : Str} {p p0 p1 p2 p3 pos : Pos} (i0 i1 i2 i3 : Nat) (T : Txt X.K X.mg) (hr : Room j X.A) (ha : PA X [.Name x0 p0, .Name x1 p1, .Name x2 p2, .Name x3 p3] (fun σ H Q => tVar i0 σ H fun v0 H1 => tVar i1 σ H1 fun v1 H2 => tVar i2 σ H2 fun v2 H3 => tVar i3 σ H3 fun v3 H4 => Q [v0, v1, v2, v3] H4)) (hk : 44 ≤ j := by decide) (hg : L2.Gl X "_law_can" := by rfl)
    (q1 : starEach [.Name x0 p0, .Name x1 p1, .Name x2 p2, .Name x3 p3] X.env = (false, eval (.Name x0 p0) X.env) :: starEach [.Name x1 p1, .Name x2 p2, .Name x3 p3] X.env := by rfl) (hpl : (backTo pos (starEach [.Name x1 p1, .Name x2 p2, .Name x3 p3] X.env)).any (·.1) = false := by rfl) :
    PE X (.Call (.Name "_law_can" p) [.Name x0 p0, .Name x1 p1, .Name x2 p2, .Name x3 p3] [] pos) (tLcan X.prog X.w i0 i1 i2 i3) :=
  pe_imp (pe_call (ok_lcan T 40) (hr.mono hk) hg T.d__law_can.g T.d__law_can.F.kp T.d__law_can.b .nil pass0 ha (by decide) q1 hpl) fun σ H Q ⟨v0, v1, v2, v3, h0, h1, h2, h3, h⟩ => ⟨v0, h0, v1, h1, v2, h2, v3, h3, h⟩
def learO (gs : List Int) (n : Nat) : Option Nat := (List.range 41).find? fun t => (keysOf (rw_ (lreachT gs 40 40) t)).any (canB (lnexts gs) n)
def learD (gs : List Int) (n : Nat) : D := match learO gs n with
  | none => .non
  | some t => .int (t : Int)
theorem ok_learliest (T : Txt K mg) : FnOk P w K mg base CX0 45 T.d__law_earliest.f T.d__law_earliest.fd ["_law_glasses_here", "_law_span"] (Pur (fun a : List Int × Nat => [dI a.1, .int (a.2 : Int)]) (fun a => Gl a.1 ∧ 1 ≤ a.2 ∧ a.2 ≤ 40) fun a => learD a.1 a.2) := by
  refine Fun.pur T.d__law_earliest.F sc__law_earliest (fun _ => rfl) (by decide) fun cdv A outer s H σ E Q a hr hp h q => ?_
  obtain ⟨gs, n⟩ := a
  obtain ⟨hG, hn1, hn4⟩ := hp
  have nd := sc__law_earliest.nd
  dsimp only at q hG hn1 hn4
  have hgl := hG.hi
  have hu := hr.units
  have h : Holds { h0 := H } σ H [.dat 1 (dI gs), .dat 1 (.int (n : Int)), .any, .any, .any, .any] := h
  have I0 : Inv (lnexts gs) (zeros gs) 40 (lreachT gs 40 40) := (table_ok (lpos hG.all) (fun ks s => Iff.rfl) 40).1
  refine w_newN 2 h (fun a σ1 H1 e1 h1 => ?_) nd
  have h1 : Holds { h0 := H, ex := [a], gs := [gN P w 1 a []] } σ1 H1 [.dat 1 (dI gs), .dat 1 (.int (n : Int)), .raw (.ref a), .any, .any, .any] := h1
  unfold learD learO at q
  refine w_forZ (Z := { h0 := H, ex := [a], gs := [gN P w 1 a []] }) (S := NRow) (m := 3) (xs := enD 0 ((lstands gs 40).map fun l => dL l)) (p := .tp [.nm 3, .nm 4]) (i_enum T.z_enumerate (d_fn T.d__law_reached (ok_lreached T) hr pass0 (Pur.gives (gs, 40) ⟨hG, show 40 ≤ 1000 by decide⟩) (a_cons (d_x 0 rfl) (a_cons d_i a_nil)))) (by decide) (p_tp (q_cons (p_nm 3 nd) (q_cons (p_nm 4 nd) q_nil))) PassesOwn.never rfl h1 (fun s => [gN P w 1 a s]) (fun _ => [.dat 1 (dI gs), .dat 1 (.int (n : Int)), .raw (.ref a), .any, .any, .any])
    (fun i s => NI (lnexts gs) gs s ∧ ∀ t < i, ((keysOf (rw_ (lreachT gs 40 40) t)).any (canB (lnexts gs) n)) = false) [] ⟨NI.nil, fun t ht => by omega⟩ rfl (fun _ _ z => z) (fun i d s B σ4 H4 hi is h4 => ?_) (fun s σ4 H4 is h4 => ?_)
  · obtain ⟨ni, hbefore⟩ := is
    obtain ⟨d', hd', rfl⟩ := enD_get (x := .non) hi
    rw [List.getElem?_map] at hd'
    obtain ⟨ks, hks, rfl⟩ := Option.map_eq_some_iff.mp hd'
    unfold lstands at hks
    rw [List.getElem?_map] at hks
    obtain ⟨row, hrow, rfl⟩ := Option.map_eq_some_iff.mp hks
    have hit : i < (lreachT gs 40 40).length := (List.getElem?_eq_some_iff.mp hrow).1
    have hi41 : i < 41 := by rw [I0.len] at hit; omega
    have erow : rw_ (lreachT gs 40 40) i = row := by
      have := at_rw hit
      rw [hrow] at this; exact (Option.some.inj this).symm
    have hsmall := linv_small hG I0 i
    rw [erow] at hsmall
    have hkl : (keysOf row).length ≤ 2197 := by unfold keysOf; rw [List.length_map]; exact hsmall
    have hst : ∀ y ∈ keysOf row, St gs y := fun y hy => linv_st hG I0 (j := i) (by rw [erow]; exact hy)
    refine ⟨_, rfl, fun σ5 H5 h5 => ?_⟩
    have h5 : Holds { h0 := H, fs := [B], ex := [a], gs := [gN P w 1 a s] } σ5 H5 [.dat 1 (dI gs), .dat 1 (.int (n : Int)), .raw (.ref a), .dat 2 (.int ((0 + i : Nat) : Int)), .dat 2 (dL (keysOf row)), .any] := h5
    have hO : ∀ x, x ∈ [a] → x ∈ Fr.O { h0 := H, fs := [B], ex := [a], gs := [gN P w 1 a s] } σ5 [.dat 1 (dI gs), .dat 1 (.int (n : Int)), .raw (.ref a), .dat 2 (.int ((0 + i : Nat) : Int)), .dat 2 (dL (keysOf row)), .any] := fun x hx => List.mem_append_left _ hx
    have j5 : JN P w (lnexts gs) gs a H5 := ⟨s, (gN P w 1 a s).mono (reg_ex (fun x hx => .inl (hO x hx)) (Ex.refl _) (Ex.refl _)) (h5.gok _ List.mem_cons_self).2.2, ni⟩
    obtain ⟨gv, eg, rg0⟩ := h5.rep_at 0 rfl
    obtain ⟨v1, en, rn⟩ := h5.rep_at 1 rfl
    cases rn
    have ea : σ5[2]? = some (some (.ref a)) := by
      have hl : 2 < σ5.length := by rw [h5.len]; exact (show 2 < 6 by decide)
      rw [List.getElem?_eq_getElem hl, h5.ok 2 _ _ (List.getElem?_eq_getElem hl) rfl]
    have back : ∀ (s' : NRow) (H6 : Hp), (∀ x o, x ∉ [a] → H5 x = some o → H6 x = some o) → (gN P w 1 a s').P (reg [a] hn H6) (only [a] H6) → Holds { h0 := H, fs := [B], ex := [a], gs := [gN P w 1 a s'] } σ5 H6 [.dat 1 (dI gs), .dat 1 (.int (n : Int)), .raw (.ref a), .dat 2 (.int ((0 + i : Nat) : Int)), .dat 2 (dL (keysOf row)), .any] := fun s' H6 keep tab' =>
      Holds.can (Z := { h0 := H, fs := [B] }) h5 rfl (fun q o hq hz => keep q o (fun y => hq (List.mem_singleton.mp y)) hz) tab' (fun l hl => by
        obtain ⟨i', m', ds', _, e⟩ := mem_owns.mp hl
        rcases i' with _ | _ | _ | _ | _ | _ | i' <;> simp at e)
    refine w_ifLJ (tel := tLcan P w 0 2 5 1) (J := JN P w (lnexts gs) gs a) (chg := [a]) (ys := keysOf row) (enc := fun y => dI y) (f := canB (lnexts gs) n) (b := (keysOf row).any (canB (lnexts gs) n)) (j := 5) (e_anyLJ T.z_any (d_lcLJ 5 (i_list (d_x 4 rfl)) (by omega) JN.stay (fun H6 j6 c hc => ?hch) (fun c hc => hc) (fun s H' C cl fp => p_nm 5 nd) (fun s H' C cl fp => ?hcan) [("_law_stand", 5)] nd (bk__law_earliest (by decide +kernel)))) h5 j5 (fun y x H6 R hy hx j6 keep6 res => ?hel) (fun hb H6 j6 keep6 => ?_) fun hb H6 j6 keep6 => ?_
    case hch =>
      obtain ⟨ks, e⟩ := j6.has
      rw [List.mem_singleton.mp hc, e]; simp
    case hcan =>
      exact e_lcanV 0 2 5 1 T hr (pa_cons (pe_var (i := 0) rfl (by first | exact Or.inl rfl | exact Or.inr (Or.inl rfl) | exact Or.inr (Or.inr rfl))) (pa_cons (pe_var (i := 2) rfl (by first | exact Or.inl rfl | exact Or.inr (Or.inl rfl) | exact Or.inr (Or.inr rfl))) (pa_cons (pe_var (i := 5) rfl (by first | exact Or.inl rfl | exact Or.inr (Or.inl rfl) | exact Or.inr (Or.inr rfl))) (pa_cons (pe_var (i := 1) rfl (by first | exact Or.inl rfl | exact Or.inr (Or.inl rfl) | exact Or.inr (Or.inr rfl))) pa_nil rfl) rfl) rfl) rfl)
    case hel =>
      have eg' : (σ5.set 5 (some x))[0]? = some (some gv) := by rw [List.getElem?_set_ne (by decide)]; exact eg
      have en' : (σ5.set 5 (some x))[1]? = some (some (.int (n : Int))) := by rw [List.getElem?_set_ne (by decide)]; exact en
      have ea' : (σ5.set 5 (some x))[2]? = some (some (.ref a)) := by rw [List.getElem?_set_ne (by decide)]; exact ea
      have es' : (σ5.set 5 (some x))[5]? = some (some x) := List.getElem?_set_self (by rw [h5.len]; exact (show 5 < 6 by decide))
      obtain ⟨row6, tab6, ni6⟩ := j6
      refine ⟨gv, .ref a, x, .int (n : Int), eg', ea', es', en', gs, y, n, a, row6, gv, x, rfl, hG, hn1, hn4, hn4, hst y hy, ni6, tab6, rg0.mono fun b o z => ?_, hx, fun H7 row7 keep7 tab7 ni7 _ => res H7 ⟨row7, tab7, ni7⟩ fun b o hb hz => keep7 b o (fun y => hb (List.mem_singleton.mpr y)) hz⟩
      obtain ⟨z1, z2, z3, z4⟩ := reg_some4 z
      have hxa : b ∉ [a] := fun y => z1 (hO b y)
      exact reg_has hxa rfl (keep6 b o hxa z3) z4
    · obtain ⟨row6, tab6, ni6⟩ := j6
      have h6 := back row6 H6 keep6 tab6
      have hf : (List.range 41).find? (fun t => (keysOf (rw_ (lreachT gs 40 40) t)).any (canB (lnexts gs) n)) = some i := by
        rw [List.find?_range_eq_some]
        exact ⟨by rw [erow]; exact hb, List.mem_range.mpr hi41, fun j hj => by rw [hbefore j hj]; rfl⟩
      rw [hf] at q
      refine w_ret (d_x 3 rfl) h6 fun v H7 e7 r => q v H7 (h6.h0x.trans e7) ?_
      rw [Nat.zero_add] at r
      exact ret_new (by decide) h6.h0x r
    · obtain ⟨row6, tab6, ni6⟩ := j6
      have h6 := back row6 H6 keep6 tab6
      refine wp_nil (wp_nil ⟨row6, ⟨ni6, fun t ht => ?_⟩, h6.drops [3, 4]⟩)
      rcases Nat.lt_or_ge t i with z | z
      · exact hbefore t z
      · rw [show t = i by omega, erow]; exact hb
  · obtain ⟨ni, hall⟩ := is
    have hf : (List.range 41).find? (fun t => (keysOf (rw_ (lreachT gs 40 40) t)).any (canB (lnexts gs) n)) = none := by
      rw [List.find?_eq_none]
      intro t ht
      rw [hall t (by
        rw [enD_len, List.length_map, lstands, List.length_map, I0.len]
        exact List.mem_range.mp ht)]
      simp
    rw [hf] at q
    refine w_ret d_n h4 fun v H7 e7 r => q v H7 (h4.h0x.trans e7) (ret_new (by decide) h4.h0x r)
end
end R

set_option Elab.async false
set_option linter.all false
set_option maxRecDepth 100000
set_option maxHeartbeats 4000000
namespace R
open PySem L2 DL M
section
variable {P : Program} {w : World} {K : PySem.W.Frag} {mg : Str → Option Value} {base : Heap}
theorem ok_lwhole (T : Txt K mg) : FnOk P w K mg base CX0 1 T.d__law_whole.f T.d__law_whole.fd ["_law_number"] (Pur (fun d : D => [d]) (fun d => knd d = true) fun d => .bl (isWhole d)) := by
  refine Fun.pur T.d__law_whole.F sc__law_whole (fun _ => rfl) (by decide) fun cdv A outer s H σ E Q d hr hp h q => ?_
  obtain ⟨t, ht⟩ := knd_ty hp
  refine w_ret (d_and (d_isi T.z_isinstance (d_x 0 rfl) T.z_int ht (kb_int ht)) fun _ => d_and1 (d_not (d_isi T.z_isinstance (d_x 0 rfl) T.z_bool ht (kb_bool ht)))) h fun v H' ex r => q v H' ex ?_
  have e : D.bl (isIntD d && !isBlD d) = D.bl (isWhole d) := by cases d <;> rfl
  rw [← e]
  exact ret_new (by decide) (Ex.refl _) r
end
end R

set_option Elab.async false
set_option linter.all false
set_option maxRecDepth 100000
set_option maxHeartbeats 1000000
namespace R
open PySem L2 DL M
section
variable {P : Program} {w : World} {K : PySem.W.Frag} {mg : Str → Option Value} {base : Heap}
theorem row_both {gs : List Int} (hG : Gl gs) {n j : Nat} (hj : j ≤ n) : (!decide (keysOf (rw_ (lreachT gs n n) j) = [])) = !(rw_ (reachT gs n n) j).isEmpty := by
  have e : keysOf (rw_ (lreachT gs n n) j) = [] ↔ rw_ (reachT gs n n) j = [] := by
    have k1 : ∀ key, key ∈ keysOf (rw_ (lreachT gs n n) j) ↔ Rch (nexts gs) (zeros gs) j key := fun key => lkeys hG hj
    have k2 : ∀ key, key ∈ keysOf (rw_ (reachT gs n n) j) ↔ Rch (nexts gs) (zeros gs) j key := fun key => table_keys (fun _ _ _ _ h => nexts_pos h) (fun ks s => sortT_mem) hj
    have hk : keysOf (rw_ (reachT gs n n) j) = [] ↔ rw_ (reachT gs n n) j = [] := by unfold keysOf; exact List.map_eq_nil_iff
    rw [← hk, List.eq_nil_iff_forall_not_mem, List.eq_nil_iff_forall_not_mem]
    exact forall_congr' fun key => not_congr ((k1 key).trans (k2 key).symm)
  cases z : rw_ (reachT gs n n) j with
  | nil => rw [decide_eq_true (e.mpr z)]; rfl
  | cons a b => rw [decide_eq_false (fun y => by rw [e.mp y] at z; cases z)]; rfl
theorem find_congrS {p q : Nat → Bool} : ∀ ts : List Nat, (∀ t ∈ ts, p t = q t) → ts.find? p = ts.find? q
  | [], _ => rfl
  | t :: ts, h => by
    rw [List.find?_cons, List.find?_cons, h t List.mem_cons_self, find_congrS ts fun y hy => h y (List.mem_cons_of_mem _ hy)]
theorem ear_both {gs : List Int} (hG : Gl gs) (n : Nat) : learD gs n = earD gs n := by
  unfold learD earD
  have e : learO gs n = earO gs n := by
    unfold learO earO
    have key : ∀ t, t < 41 → (keysOf (rw_ (lreachT gs 40 40) t)).any (canB (lnexts gs) n) = (rw_ (reachT gs 40 40) t).any fun p => canB (nexts gs) n p.1 := fun t ht => by
      have k1 : ∀ key, key ∈ keysOf (rw_ (lreachT gs 40 40) t) ↔ Rch (nexts gs) (zeros gs) t key := fun key => lkeys hG (by omega)
      have k2 : ∀ key, key ∈ keysOf (rw_ (reachT gs 40 40) t) ↔ Rch (nexts gs) (zeros gs) t key := fun key => table_keys (fun _ _ _ _ h => nexts_pos h) (fun ks s => sortT_mem) (by omega)
      have e2 : ((rw_ (reachT gs 40 40) t).any fun p => canB (nexts gs) n p.1) = (keysOf (rw_ (reachT gs 40 40) t)).any (canB (nexts gs) n) := by
        unfold keysOf
        rw [List.any_map]; rfl
      rw [e2]
      refine Bool.eq_iff_iff.mpr ?_
      rw [List.any_eq_true, List.any_eq_true]
      constructor
      · rintro ⟨x, hx, h⟩
        have hr := (k1 x).mp hx
        exact ⟨x, (k2 x).mpr hr, by rw [← can_both hG n x (rch_st hG.all (zeros_st hG.all) hr)]; exact h⟩
      · rintro ⟨x, hx, h⟩
        have hr := (k2 x).mp hx
        exact ⟨x, (k1 x).mpr hr, by rw [can_both hG n x (rch_st hG.all (zeros_st hG.all) hr)]; exact h⟩
    exact find_congrS _ fun t ht => key t (List.mem_range.mp ht)
  first
    | (rw [e]; done)
    | (rw [e]; generalize earO gs n = o; cases o <;> rfl)
theorem knd1_intsS {ns : List Int} (h : ns.length ≤ 1000000) : knd1 (dI ns) = true := by
  show (lenOk _ && _) = true
  rw [List.length_map, lenOk_of h, Bool.true_and]
  exact List.all_eq_true.mpr fun d hd => by obtain ⟨i, _, rfl⟩ := List.mem_map.mp hd; rfl
theorem within_isS {n : Nat} (h1 : 1 ≤ n) (h2 : n ≤ 40) : isWithin 1 40 (.int (n : Int)) = true := by
  show (decide ((1 : Int) ≤ (n : Int)) && decide ((n : Int) ≤ 40)) = true
  rw [decide_eq_true (by omega), decide_eq_true (by omega)]; rfl
theorem glassM {gs : List Int} {mo : Int} (h1 : 1 ≤ gs.length) (h2 : (gs.length : Int) ≤ mo) (h3 : ∀ g ∈ gs, 1 ≤ g ∧ g ≤ 12) : isGlasses mo (dI gs) = true := by
  show ((decide (1 ≤ ((gs.map D.int).length : Int)) && decide (((gs.map D.int).length : Int) ≤ mo)) && (gs.map D.int).all (isWithin 1 12)) = true
  rw [List.length_map, decide_eq_true (by omega), decide_eq_true h2, List.all_eq_true.mpr fun d hd => ?_]; rfl
  obtain ⟨g, hg, rfl⟩ := List.mem_map.mp hd
  obtain ⟨k1, k2⟩ := h3 g hg
  show (decide (1 ≤ g) && decide (g ≤ 12)) = true
  rw [decide_eq_true k1, decide_eq_true k2]; rfl
theorem meas_at {gs : List Int} {Cg : Addr} (hG : Gl gs) : (if isGlasses 3 (dI gs) then .inr (dI (measL (isD (dI gs)))) else .inl Cg : Addr ⊕ D) = .inr (dI (measL gs)) := by
  rw [glassM hG.lo (by have := hG.hi; omega) hG.all, if_pos rfl, isD_dI]
theorem ear_at {gs : List Int} {n : Nat} {Cg Ct : Addr} (hG : Gl gs) (h1 : 1 ≤ n) (h2 : n ≤ 40) : (if isGlasses 3 (dI gs) then if isWithin 1 40 (.int (n : Int)) then .inr (earD (isD (dI gs)) (iD (.int (n : Int))).toNat) else .inl Ct else .inl Cg : Addr ⊕ D) = .inr (earD gs n) := by
  rw [glassM hG.lo (by have := hG.hi; omega) hG.all, if_pos rfl, within_isS h1 h2, if_pos rfl, isD_dI, show iD (.int (n : Int)) = (n : Int) from rfl, Int.toNat_natCast]
theorem least_at {gs : List Int} {n : Nat} {Cg Ct : Addr} (hl : 1 ≤ gs.length) (hh : gs.length ≤ 5) (hg : ∀ g ∈ gs, 1 ≤ g ∧ g ≤ 12) (h1 : 1 ≤ n) (h2 : n ≤ 40) : (if isGlasses 5 (dI gs) then if isWithin 1 40 (.int (n : Int)) then .inr (leastD (isD (dI gs)) (iD (.int (n : Int))).toNat) else .inl Ct else .inl Cg : Addr ⊕ D) = .inr (leastD gs n) := by
  rw [glassM hl (by omega) hg, if_pos rfl, within_isS h1 h2, if_pos rfl, isD_dI, show iD (.int (n : Int)) = (n : Int) from rfl, Int.toNat_natCast]
theorem meas_len (gs : List Int) : (measL gs).length ≤ 40 := by
  unfold measL
  rw [List.length_map]
  exact Nat.le_trans (List.length_filter_le _ _) (by rw [List.length_range]; exact Nat.le_refl _)
theorem ne_nilS (ks : List (List Int)) : (!deq (dL ks) (.lst [])) = !decide (ks = []) := by
  show (!deq (.lst (ks.map dI)) (.lst [])) = _
  rw [deq_nil]
  cases ks with
  | nil => rfl
  | cons a b => rw [decide_eq_false (by simp), decide_eq_false (by simp)]
theorem meas_both {gs : List Int} (hG : Gl gs) : ((List.range 40).filter fun i => !decide (keysOf (rw_ (lreachT gs 40 40) (i + 1)) = [])).map (fun i : Nat => ((i : Int) + 1)) = measL gs := by
  unfold measL
  have e : ((List.range 40).filter fun i => !decide (keysOf (rw_ (lreachT gs 40 40) (i + 1)) = [])) = (List.range 40).filter fun i => !(rw_ (reachT gs 40 40) (i + 1)).isEmpty := List.filter_congr fun i hi => row_both hG (by have := List.mem_range.mp hi; omega)
  rw [e]
theorem ear_kind (gs : List Int) (n : Nat) : earD gs n = .non ∨ ∃ t : Nat, earD gs n = .int (t : Int) := by
  unfold earD
  generalize earO gs n = o
  cases o with
  | none => exact .inl rfl
  | some t => exact .inr ⟨t, rfl⟩
abbrev GG (a b c d e f g h i : SV) : List SV := [a, b, c, d, e, f, g, h, i]
theorem ok_glasses_right (T : Txt K mg) : FnOk P w K mg base CX0 46 T.d__law_glasses_right.f T.d__law_glasses_right.fd ["_law_glasses_here", "_law_span"] (Pur (fun a : List Int × Nat => [dI a.1, .int (a.2 : Int)]) (fun a => Gl a.1 ∧ 1 ≤ a.2 ∧ a.2 ≤ 40) fun _ => .bl true) := by
  refine Fun.pur T.d__law_glasses_right.F sc__law_glasses_right (fun _ => rfl) (by decide) fun cdv A outer s H σ E Q a hr hp h q => ?_
  obtain ⟨gs, n⟩ := a
  obtain ⟨hG, hn1, hn4⟩ := hp
  dsimp only at hG hn1 hn4 q
  have nd := sc__law_glasses_right.nd
  have hu := hr.units
  have hl3 := hG.hi
  have hk1 : knd1 (dI gs) = true := knd1_intsS (by omega)
  have h : Holds { h0 := H } σ H (GG (.dat 1 (dI gs)) (.dat 1 (.int (n : Int))) .any .any .any .any .any .any .any) := h
  have hmeas := fun (Cg : Addr) => meas_at (Cg := Cg) hG
  have hear := fun (Cg Ct : Addr) => ear_at (Cg := Cg) (Ct := Ct) hG hn1 hn4
  have hearb := ear_both hG n
  have hkind := ear_kind gs n
  have hlaw : Gives (Pur (fun a : List Int × Nat => [dI a.1, .int (a.2 : Int)]) (fun a => Gl a.1 ∧ 1 ≤ a.2 ∧ a.2 ≤ 40) fun a => learD a.1 a.2) [dI gs, .int (n : Int)] (learD gs n) := Pur.gives (gs, n) ⟨hG, hn1, hn4⟩
  rw [hearb] at hlaw
  have hml := meas_len gs
  have hdue : ((List.range 40).filter fun i => !decide (keysOf (rw_ (lreachT gs 40 40) (i + 1)) = [])).map (fun i : Nat => ((i : Int) + 1)) = measL gs := by
    exact meas_both hG
  have hll : (lstands gs 40).length = 41 := by
    unfold lstands
    rw [List.length_map]
    have I1 : Inv (lnexts gs) (zeros gs) 40 (lreachT gs 40 40) := (table_ok (lpos hG.all) (fun ks s => Iff.rfl) 40).1
    exact I1.len
  have hrow : ∀ i, i < 41 → (lstands gs 40)[i]? = some (keysOf (rw_ (lreachT gs 40 40) i)) := fun i hi => by
    have hlt2 : i < (lreachT gs 40 40).length := by
      unfold lstands at hll
      rw [List.length_map] at hll; omega
    rw [lstands, List.getElem?_map, at_rw hlt2]; rfl
  refine w_part [⟨false, 2, 2, dI gs⟩, ⟨false, 3, 2, .lst ((lstands gs 40).map fun l => dL l)⟩] ⟨fun Z hz => d_w (d_listS T.z_list (d_x 0 rfl) (scL_ints gs)) (show 2 ≤ 3 by decide),
      fun Z hz => d_w (d_fn T.d__law_reached (ok_lreached T) hr pass0 (Pur.gives (gs, 40) ⟨hG, show 40 ≤ 1000 by decide⟩) (a_cons (d_x 0 rfl) (a_cons d_i a_nil))) (show 2 ≤ 3 by decide), trivial⟩ h (fun σ2 H2 e2 h2 => ?_) (p_tp (q_cons (p_nm 2 nd) (q_cons (p_nm 3 nd) q_nil))) (hsz := two_sz) (hpa := pa_cons wE_ok (pa_cons wE_ok pa_nil rfl) rfl)
  dsimp only [setG, As.sv] at h2
  generalize lstands gs 40 = ls at h2 hll hrow
  generalize lreachT gs 40 40 = lt at hdue hrow
  have h2 : Holds { h0 := H } σ2 H2 (GG (.dat 1 (dI gs)) (.dat 1 (.int (n : Int))) (.dat 2 (dI gs)) (.dat 2 (.lst (ls.map fun l => dL l))) .any .any .any .any .any) := h2
  refine w_lc (α := Nat) (me := 2) (enc := fun i => .int ((i : Int) + 1)) (ys := List.range 40) (tst := fun i => !decide (keysOf (rw_ lt (i + 1)) = [])) (f := fun i => .int ((i : Int) + 1)) 4 [("_law_tick", 8)] (.nm 8) (rng_one ▸ i_range2 T.z_range d_i d_i (by decide)) (fun s H' C cl fp => p_nm 8 nd) (fun i x Z' hx hz => ⟨_, rfl, fun s H' C cl fp => pts_oneD ?ts, fun _ s H' C cl fp => d_x 8 rfl⟩) h2 (fun σ3 H3 e3 h3 => ?_) (by decide) nd (bk__law_glasses_right (by decide +kernel)) rfl
  case ts =>
    have hi : x < 40 := List.mem_range.mp (List.mem_of_getElem? hx)
    refine t_eq (t_dne hu (d_ixL (d := dL (keysOf (rw_ lt (x + 1)))) (d_x 3 rfl) (d_x 8 rfl) ?_) (d_lst a_nil (by decide)) (cq_dLs _ (n := 0)).eqOk (by decide)) ?_
    · rw [List.length_map, show ((x : Int) + 1) = ((x + 1 : Nat) : Int) by omega, ix_nat (by omega), Option.bind_some, List.getElem?_map, hrow (x + 1) (by omega)]; rfl
    · exact ne_nilS _
  have hdd : D.lst ((((List.range 40).filter fun i => !decide (keysOf (rw_ lt (i + 1)) = [])).map fun i : Nat => D.int ((i : Int) + 1))) = dI (measL gs) := by
    rw [← hdue]
    show D.lst _ = D.lst _
    rw [List.map_map]; rfl
  rw [hdd] at h3
  generalize measL gs = ml at h3 hmeas hml
  clear hdd hdue
  have h3 : Holds { h0 := H } σ3 H3 (GG (.dat 1 (dI gs)) (.dat 1 (.int (n : Int))) (.dat 2 (dI gs)) (.dat 2 (.lst (ls.map fun l => dL l))) (.dat 2 (dI ml)) .any .any .any .any) := h3
  refine w_for (m := 3) (xs := rng 0 (2 : Int).toNat) (.nm 5) (i_range1 T.z_range d_i (by decide) (by decide)) (by decide) (p_nm 5 nd) PassesOwn.never rfl h3 (fun _ => GG (.dat 1 (dI gs)) (.dat 1 (.int (n : Int))) (.dat 2 (dI gs)) (.dat 2 (.lst (ls.map fun l => dL l))) (.dat 2 (dI ml)) .any .any .any .any) (fun Z' H' h => h) (fun k d B σ4 H4 hd h4 => ?_) fun σ4 H4 h4 => ?_
  · obtain ⟨hi, rfl⟩ := rng_get hd
    refine ⟨_, rfl, fun σ5 H5 h5 => ?_⟩
    have h5 : Holds { h0 := H, fs := [B] } σ5 H5 (GG (.dat 1 (dI gs)) (.dat 1 (.int (n : Int))) (.dat 2 (dI gs)) (.dat 2 (.lst (ls.map fun l => dL l))) (.dat 2 (dI ml)) (.dat 2 (.int (0 + (k : Int)))) .any .any .any) := h5
    refine w_setE 6 (d_fn T.d_measured (ok_measured T) hr passL (PurX.gives (d := dI ml) (dI gs) hk1 (hmeas _)) (a_cons (d_x 2 rfl) a_nil)) h5 (fun v H6 e6 r6 => ?_) nd
    obtain ⟨l, rfl⟩ : ∃ l, v = .ref l := by cases r6; exact ⟨_, rfl⟩
    have h6 : Holds { h0 := H, fs := [B] } (σ5.set 6 (some (.ref l))) H6 (GG (.dat 1 (dI gs)) (.dat 1 (.int (n : Int))) (.dat 2 (dI gs)) (.dat 2 (.lst (ls.map fun l => dL l))) (.dat 2 (dI ml)) (.dat 2 (.int (0 + (k : Int)))) (.dat 2 (dI ml)) .any .any) := (h5.grow e6).dat (m := 2) 6 (d := dI ml) (r6.mono (rg_ex (fun _ z => .inl z) h5.h0x (Ex.refl _)))
    refine w_if (b := false) (t_eq (t_bool (w_or (p := false) (q := false) (t_eq (t_dne hu (d_x 6 rfl) (d_x 4 rfl) (cq_dI ml (n := 0)).eqOk (cq_dI ml (n := 0)).eqOk) (by rw [deq_refl (cq_dI ml (n := 0)).p]; rfl)) fun _ => w_or1 (t_eq (t_dne hu (d_x 2 rfl) (d_x 0 rfl) (cq_dI gs (n := 0)).eqOk (cq_dI gs (n := 0)).eqOk) (by rw [deq_refl (cq_dI gs (n := 0)).p]; rfl)))) rfl) h6 (fun hb => by cases hb) fun _ H7 e7 h7 => ?_
    refine wp_nil ?_
    refine w_if (b := false) (t_eq (t_not (t_val (d_allc (p := fun _ => true) (enc := D.int) (ys := ml) T.z_all [("_law_tick", 8)] (.nm 8) (i_list (d_x 6 rfl)) (fun s H' C cl fp => p_nm 8 nd)
        (fun i y Z' hy hz => ⟨_, rfl, fun s H' C cl fp => pts_nilD, fun _ s H' C cl fp => d_eq (d_fn T.d__law_whole (ok_lwhole T) hr pass0 (Pur.gives (D.int y) (by rfl)) (a_cons (d_x 8 rfl) a_nil)) (by rfl)⟩) (by omega) nd (bk__law_glasses_right (by decide +kernel))))) (by rw [List.all_eq_true.mpr fun _ _ => rfl]; rfl)) h7 (fun hb => by cases hb) fun _ H8 e8 h8 => ?_
    refine wp_nil ?_
    have h9 : Holds { h0 := H, fs := [B] } (σ5.set 6 (some (.ref l))) H8 (GG (.dat 1 (dI gs)) (.dat 1 (.int (n : Int))) (.dat 2 (dI gs)) (.dat 2 (.lst (ls.map fun l => dL l))) (.dat 2 (dI ml)) (.dat 2 (.int (0 + (k : Int)))) (.own 2 (ml.map D.int)) .any .any) := h5.setOwn 6 ((e6.trans e7).trans e8) (r6.mono (rg_ex (fun _ z => .inl z) (Ex.refl _) (e7.trans e8)))
    refine w_app (m := 2) (ma := 3) (ds := ml.map D.int) (d := .int 0) 6 rfl d_i h9 (fun H9 h10 => ?_) (by rw [List.length_map]; omega)
    exact wp_nil (h10.drops [5, 6])
  · clear hearb
    generalize earD gs n = ed at hear hlaw hkind
    refine w_set (d := ed) 7 (d_fn T.d_earliest (ok_earliest T) hr passL (PurX.gives (d := ed) (dI gs, .int (n : Int)) ⟨hk1, rfl⟩ (hear _ _)) (a_cons (d_x 2 rfl) (a_cons (d_x 1 rfl) a_nil))) h4 (fun σ5 H5 e5 h5 => ?_) nd
    have h5 : Holds { h0 := H } σ5 H5 (GG (.dat 1 (dI gs)) (.dat 1 (.int (n : Int))) (.dat 2 (dI gs)) (.dat 2 (.lst (ls.map fun l => dL l))) (.dat 2 (dI ml)) .any .any (.dat 2 ed) .any) := h5
    have hcq : Cq 0 ed := by
      rcases hkind with z | ⟨t, z⟩
      · rw [z]; exact cq_non
      · rw [z]; exact cq_int _
    refine w_if (b := false) (t_eq (t_bool (w_or (p := false) (q := false) (t_eq (t_dne hu (d_x 7 rfl) (d_fn T.d__law_earliest (ok_learliest T) hr pass0 hlaw (a_cons (d_x 0 rfl) (a_cons (d_x 1 rfl) a_nil))) hcq.eqOk hcq.eqOk) (by rw [deq_refl hcq.p]; rfl)) fun _ => w_or1 (t_eq (t_dne hu (d_x 2 rfl) (d_x 0 rfl) (cq_dI gs (n := 0)).eqOk (cq_dI gs (n := 0)).eqOk) (by rw [deq_refl (cq_dI gs (n := 0)).p]; rfl)))) rfl) h5 (fun hb => by cases hb) fun _ H7 e7 h7 => ?_
    refine wp_nil ?_
    refine w_ret (m := 3) (d := .bl true) (d_eq (d_or (p := isNon ed) (q := true) (d_isN (d_x 7 rfl)) fun hb => d_or1 (d_eq (d_fn T.d__law_whole (ok_lwhole T) hr pass0 (Pur.gives ed ?hk) (a_cons (d_x 7 rfl) a_nil)) ?hw)) (by rw [Bool.or_true])) h7 fun v H8 e8 r => ?_
    case hk =>
      rcases hkind with z | ⟨t, z⟩
      · rw [z]; rfl
      · rw [z]; rfl
    case hw =>
      rcases hkind with z | ⟨t, z⟩
      · rw [z] at hb; cases hb
      · rw [z]; rfl
    cases r
    exact q _ H8 (h7.h0x.trans e8) (.bl true)
end
end R

set_option Elab.async false
set_option linter.all false
set_option maxRecDepth 100000
set_option maxHeartbeats 1000000
namespace R
open PySem L2 DL M
section
variable {P : Program} {w : World} {K : PySem.W.Frag} {mg : Str → Option Value} {base : Heap}
theorem find_some_mem {f : List Int → Bool} : ∀ {ks : List Nat} {g : Nat → List (List Int)} {l : List Int}, ks.findSome? (fun k => (g k).find? f) = some l → ∃ k ∈ ks, l ∈ g k
  | [], _, _, h => by cases h
  | k :: ks, g, l, h => by
    rw [List.findSome?_cons] at h
    cases z : (g k).find? f with
    | some b =>
      rw [z] at h
      cases h
      exact ⟨k, List.mem_cons_self, List.mem_of_find?_eq_some z⟩
    | none =>
      rw [z] at h
      obtain ⟨k', h1, h2⟩ := find_some_mem h
      exact ⟨k', List.mem_cons_of_mem _ h1, h2⟩
theorem least_kind (gs : List Int) (n : Nat) : leastD gs n = .non ∨ ∃ l : List Int, leastD gs n = dI l ∧ l.length ≤ 3 := by
  unfold leastD
  cases z : leastO gs n with
  | none => exact .inl rfl
  | some l =>
    refine .inr ⟨l, rfl, ?_⟩
    unfold leastO at z
    obtain ⟨k, hk, hl⟩ := find_some_mem (g := fun k => levL gs.length (k + 1)) z
    have := (lev_ok gs.length (k + 1) l hl).l
    have := List.mem_range.mp hk
    omega
abbrev GB (a b c d e : SV) : List SV := [a, b, c, d, e]
theorem ok_least_right (T : Txt K mg) : FnOk P w K mg base CX0 6 T.d__law_least_right.f T.d__law_least_right.fd ["_law_spans", "_law_ticks"] (Pur (fun a : List Int × Nat => [dI a.1, .int (a.2 : Int)]) (fun a => 1 ≤ a.1.length ∧ a.1.length ≤ 5 ∧ (∀ g ∈ a.1, 1 ≤ g ∧ g ≤ 12) ∧ 1 ≤ a.2 ∧ a.2 ≤ 40) fun _ => .bl true) := by
  refine Fun.pur T.d__law_least_right.F sc__law_least_right (fun _ => rfl) (by decide) fun cdv A outer s H σ E Q a hr hp h q => ?_
  obtain ⟨gs, n⟩ := a
  obtain ⟨hl1, hl5, hsp, hn1, hn4⟩ := hp
  dsimp only at hl1 hl5 hsp hn1 hn4 q
  have nd := sc__law_least_right.nd
  have hu := hr.units
  have hk1 : knd1 (dI gs) = true := knd1_intsS (by omega)
  have hres := fun (Cg Ct : Addr) => least_at (Cg := Cg) (Ct := Ct) hl1 hl5 hsp hn1 hn4
  have hkind := least_kind gs n
  have hlaw : Gives (Pur (fun a : List Int × Nat => [dI a.1, .int (a.2 : Int)]) (fun a => a.1.length ≤ 5 ∧ (∀ g ∈ a.1, 1 ≤ g ∧ g ≤ 12) ∧ a.2 ≤ 40) fun a => leastD a.1 a.2) [dI gs, .int (n : Int)] (leastD gs n) := Pur.gives (gs, n) ⟨hl5, hsp, hn4⟩
  have h : Holds { h0 := H } σ H (GB (.dat 1 (dI gs)) (.dat 1 (.int (n : Int))) .any .any .any) := h
  refine w_set (d := dI gs) 2 (d_listS T.z_list (d_x 0 rfl) (scL_ints gs)) h (fun σ1 H1 e1 h1 => ?_) nd
  have h1 : Holds { h0 := H } σ1 H1 (GB (.dat 1 (dI gs)) (.dat 1 (.int (n : Int))) (.dat 2 (dI gs)) .any .any) := h1
  rcases hkind with z | ⟨ml, z, hml⟩
  · rw [z] at hres hlaw
    refine w_set (d := .non) 3 (d_fn T.d_least_glasses (ok_least_glasses T) hr passL (PurX.gives (d := .non) (dI gs, .int (n : Int)) ⟨hk1, rfl⟩ (hres _ _)) (a_cons (d_x 2 rfl) (a_cons (d_x 1 rfl) a_nil))) h1 (fun σ5 H5 e5 h5 => ?_) nd
    have h5 : Holds { h0 := H } σ5 H5 (GB (.dat 1 (dI gs)) (.dat 1 (.int (n : Int))) (.dat 2 (dI gs)) (.dat 2 .non) .any) := h5
    refine w_if (b := false) (t_eq (t_bool (w_or (p := false) (q := false) (t_eq (t_dne hu (d_x 3 rfl) (d_fn T.d__law_least (ok_lleast T) hr pass0 hlaw (a_cons (d_x 0 rfl) (a_cons (d_x 1 rfl) a_nil))) (cq_non (n := 0)).eqOk (cq_non (n := 0)).eqOk) (by rw [deq_refl (cq_non (n := 0)).p]; rfl)) fun _ => w_or1 (t_eq (t_dne hu (d_x 2 rfl) (d_x 0 rfl) (cq_dI gs (n := 0)).eqOk (cq_dI gs (n := 0)).eqOk) (by rw [deq_refl (cq_dI gs (n := 0)).p]; rfl)))) rfl) h5 (fun hb => by cases hb) fun _ H7 e7 h7 => ?_
    refine wp_nil ?_
    refine w_if (b := false) (t_eq (t_notN (d_x 3 rfl)) rfl) h7 (fun hb => by cases hb) fun _ H8 e8 h8 => ?_
    refine wp_nil ?_
    refine w_ret (m := 3) (d := .bl true) (d_eq (d_deq hu (d_fn T.d_least_glasses (ok_least_glasses T) hr passL (PurX.gives (d := .non) (dI gs, .int (n : Int)) ⟨hk1, rfl⟩ (hres _ _)) (a_cons (d_x 2 rfl) (a_cons (d_x 1 rfl) a_nil))) (d_fn T.d__law_least (ok_lleast T) hr pass0 hlaw (a_cons (d_x 0 rfl) (a_cons (d_x 1 rfl) a_nil))) (cq_non (n := 0)).eqOk (cq_non (n := 0)).eqOk) (by rw [deq_refl (cq_non (n := 0)).p])) h8 fun v H9 e9 r => ?_
    cases r
    exact q _ H9 (h8.h0x.trans e9) (.bl true)
  · rw [z] at hres hlaw
    refine w_setE 3 (d_fn T.d_least_glasses (ok_least_glasses T) hr passL (PurX.gives (d := dI ml) (dI gs, .int (n : Int)) ⟨hk1, rfl⟩ (hres _ _)) (a_cons (d_x 2 rfl) (a_cons (d_x 1 rfl) a_nil))) h1 (fun v H5 e5 r5 => ?_) nd
    obtain ⟨l, rfl⟩ : ∃ l, v = .ref l := by cases r5; exact ⟨_, rfl⟩
    have h5 : Holds { h0 := H } (σ1.set 3 (some (.ref l))) H5 (GB (.dat 1 (dI gs)) (.dat 1 (.int (n : Int))) (.dat 2 (dI gs)) (.dat 2 (dI ml)) .any) := (h1.grow e5).dat (m := 2) 3 (d := dI ml) (r5.mono (rg_ex (fun _ z => .inl z) h1.h0x (Ex.refl _)))
    refine w_if (b := false) (t_eq (t_bool (w_or (p := false) (q := false) (t_eq (t_dne hu (d_x 3 rfl) (d_fn T.d__law_least (ok_lleast T) hr pass0 hlaw (a_cons (d_x 0 rfl) (a_cons (d_x 1 rfl) a_nil))) (cq_dI ml (n := 0)).eqOk (cq_dI ml (n := 0)).eqOk) (by rw [deq_refl (cq_dI ml (n := 0)).p]; rfl)) fun _ => w_or1 (t_eq (t_dne hu (d_x 2 rfl) (d_x 0 rfl) (cq_dI gs (n := 0)).eqOk (cq_dI gs (n := 0)).eqOk) (by rw [deq_refl (cq_dI gs (n := 0)).p]; rfl)))) rfl) h5 (fun hb => by cases hb) fun _ H7 e7 h7 => ?_
    refine wp_nil ?_
    refine w_if (b := true) (t_eq (t_notN (d_x 3 rfl)) rfl) h7 (fun _ H8 e8 h8 => ?_) fun hb => by cases hb
    refine w_if (b := false) (t_eq (t_not (t_val (d_allc (p := fun _ => true) (enc := D.int) (ys := ml) T.z_all [("_law_place", 4)] (.nm 4) (i_list (d_x 3 rfl)) (fun s H' C cl fp => p_nm 4 nd)
        (fun i y Z' hy hz => ⟨_, rfl, fun s H' C cl fp => pts_nilD, fun _ s H' C cl fp => d_eq (d_fn T.d__law_whole (ok_lwhole T) hr pass0 (Pur.gives (D.int y) (by rfl)) (a_cons (d_x 4 rfl) a_nil)) (by rfl)⟩) (by omega) nd (bk__law_least_right (by decide +kernel))))) (by rw [List.all_eq_true.mpr fun _ _ => rfl]; rfl)) h8 (fun hb => by cases hb) fun _ H9 e9 h9 => ?_
    refine wp_nil ?_
    have h10 : Holds { h0 := H } (σ1.set 3 (some (.ref l))) H9 (GB (.dat 1 (dI gs)) (.dat 1 (.int (n : Int))) (.dat 2 (dI gs)) (.own 2 (ml.map D.int)) .any) := h1.setOwn 3 (((e5.trans e7).trans e8).trans e9) (r5.mono (rg_ex (fun _ z => .inl z) (Ex.refl _) ((e7.trans e8).trans e9)))
    refine w_app (m := 2) (ma := 3) (ds := ml.map D.int) (d := .int 0) 3 rfl d_i h10 (fun H11 h11 => ?_) (by rw [List.length_map]; omega)
    refine wp_nil ?_
    refine w_ret (m := 3) (d := .bl true) (d_eq (d_deq hu (d_fn T.d_least_glasses (ok_least_glasses T) hr passL (PurX.gives (d := dI ml) (dI gs, .int (n : Int)) ⟨hk1, rfl⟩ (hres _ _)) (a_cons (d_x 2 rfl) (a_cons (d_x 1 rfl) a_nil))) (d_fn T.d__law_least (ok_lleast T) hr pass0 hlaw (a_cons (d_x 0 rfl) (a_cons (d_x 1 rfl) a_nil))) (cq_dI ml (n := 0)).eqOk (cq_dI ml (n := 0)).eqOk) (by rw [deq_refl (cq_dI ml (n := 0)).p])) h11 fun v H12 e12 r => ?_
    cases r
    exact q _ H12 (h11.h0x.trans e12) (.bl true)
end
end R

set_option Elab.async false
set_option linter.all false
set_option maxRecDepth 100000
set_option maxHeartbeats 1000000
namespace R
open PySem L2 DL M
def xT (gs : List Int) (n : Nat) : List Row := table id (nextsX gs) (zeros gs) n n
theorem xkeys {gs : List Int} (hG : Gl gs) {n j : Nat} (hj : j ≤ n) (key : List Int) : key ∈ keysOf (rw_ (xT gs n) j) ↔ key ∈ keysOf (rw_ (reachT gs n n) j) := by
  have k2 : key ∈ keysOf (rw_ (reachT gs n n) j) ↔ Rch (nexts gs) (zeros gs) j key := table_keys (fun _ _ _ _ h => nexts_pos h) (fun ks s => sortT_mem) hj
  have k1 : key ∈ keysOf (rw_ (xT gs n) j) ↔ Rch (nextsX gs) (zeros gs) j key := table_keys (fun _ st _ x h => by
    rw [← nexts_x hG.hi] at h
    exact nexts_pos h) (fun ks s => Iff.rfl) hj
  rw [k1, k2, nexts_x hG.hi]
theorem xempty {gs : List Int} (hG : Gl gs) {n j : Nat} (hj : j ≤ n) : (rw_ (reachT gs n n) j).isEmpty = (rw_ (xT gs n) j).isEmpty := by
  have e : ∀ r s : Row, (∀ key, key ∈ keysOf s ↔ key ∈ keysOf r) → r.isEmpty = s.isEmpty := fun r s h => by
    cases r with
    | nil =>
      cases s with
      | nil => rfl
      | cons a b => exact absurd ((h a.1).mp (List.mem_map.mpr ⟨a, List.mem_cons_self, rfl⟩)) (by unfold keysOf; simp)
    | cons a b =>
      cases s with
      | nil => exact absurd ((h a.1).mpr (List.mem_map.mpr ⟨a, List.mem_cons_self, rfl⟩)) (by unfold keysOf; simp)
      | cons c d => rfl
  exact e _ _ (xkeys hG hj)
theorem xany {gs : List Int} (hG : Gl gs) {t : Nat} (ht : t ≤ 40) (n : Nat) : ((rw_ (reachT gs 40 40) t).any fun p => canB (nexts gs) n p.1) = (keysOf (rw_ (xT gs 40) t)).any (canB (nextsX gs) n) := by
  have e : ∀ (r s : Row) (f : List Int → Bool), (∀ key, key ∈ keysOf s ↔ key ∈ keysOf r) → (r.any fun p => f p.1) = (keysOf s).any f := fun r s f h => by
    have e2 : (r.any fun p => f p.1) = (keysOf r).any f := by unfold keysOf; rw [List.any_map]; rfl
    rw [e2]
    refine Bool.eq_iff_iff.mpr ?_
    rw [List.any_eq_true, List.any_eq_true]
    exact ⟨fun ⟨x, hx, y⟩ => ⟨x, (h x).mpr hx, y⟩, fun ⟨x, hx, y⟩ => ⟨x, (h x).mp hx, y⟩⟩
  rw [← nexts_x hG.hi]
  exact e _ _ _ (xkeys hG ht)
theorem ear_x {gs : List Int} (hG : Gl gs) (n : Nat) : earO gs n = (List.range 41).find? fun t => (keysOf (rw_ (xT gs 40) t)).any (canB (nextsX gs) n) := by
  unfold earO
  exact find_congrS _ fun t ht => xany hG (by have := List.mem_range.mp ht; omega) n
theorem meas_x {gs : List Int} (hG : Gl gs) : measL gs = ((List.range 40).filter fun i => !(rw_ (xT gs 40) (i + 1)).isEmpty).map fun i : Nat => ((i : Int) + 1) := by
  have e : ((List.range 40).filter fun i => !(rw_ (reachT gs 40 40) (i + 1)).isEmpty) = (List.range 40).filter fun i => !(rw_ (xT gs 40) (i + 1)).isEmpty := List.filter_congr fun i hi => congrArg (! ·) (xempty hG (by have := List.mem_range.mp hi; omega))
  unfold measL
  rw [e]
def hitX (spans : List Int) (n : Nat) (sm : List Int) : Bool := !(rw_ (xT (pickS spans sm) n) n).isEmpty
theorem find_congrL {p q : List Int → Bool} : ∀ ts : List (List Int), (∀ t ∈ ts, p t = q t) → ts.find? p = ts.find? q
  | [], _ => rfl
  | t :: ts, h => by
    rw [List.find?_cons, List.find?_cons, h t List.mem_cons_self, find_congrL ts fun y hy => h y (List.mem_cons_of_mem _ hy)]
theorem findSome_congrS {f g : Nat → Option (List Int)} : ∀ ts : List Nat, (∀ t ∈ ts, f t = g t) → ts.findSome? f = ts.findSome? g
  | [], _ => rfl
  | t :: ts, h => by
    rw [List.findSome?_cons, List.findSome?_cons, h t List.mem_cons_self, findSome_congrS ts fun y hy => h y (List.mem_cons_of_mem _ hy)]
theorem least_x {spans : List Int} (hs : ∀ g ∈ spans, 1 ≤ g ∧ g ≤ 12) (n : Nat) : leastO spans n = (List.range (min 3 spans.length)).findSome? fun k => (levL spans.length (k + 1)).find? (hitX spans n) := by
  unfold leastO
  refine findSome_congrS _ fun k hk => find_congrL _ fun sm hsm => ?_
  have hk := List.mem_range.mp hk
  exact congrArg (! ·) (xempty (gl_pick hs (lev_ok _ _ sm hsm) (by omega)) (Nat.le_refl n))
theorem f_ear1 : earO [7, 11] 4 = some 7 := by
  rw [ear_x (by refine ⟨?_, ?_, ?_⟩ <;> simp)]
  decide +kernel
theorem f_ear2 : earO [6, 10] 5 = none := by
  rw [ear_x (by refine ⟨?_, ?_, ?_⟩ <;> simp)]
  decide +kernel
theorem f_meas : measL [9] = [9, 18, 27, 36] := by
  rw [meas_x (by refine ⟨?_, ?_, ?_⟩ <;> simp)]
  decide +kernel
theorem f_least1 : leastO [8, 4, 6] 10 = some [0, 2] := by
  rw [least_x (by simp)]
  decide +kernel
theorem f_least2 : leastO [5, 5, 3] 6 = some [2] := by
  rw [least_x (by simp)]
  decide +kernel
theorem f_least3 : leastO [6, 10, 4, 8, 12] 7 = none := by
  rw [least_x (by simp)]
  decide +kernel
end R

set_option Elab.async false
set_option linter.all false
set_option maxRecDepth 100000
set_option maxHeartbeats 1000000
namespace R
open PySem L2 DL M
section
variable {P : Program} {w : World} {K : PySem.W.Frag} {mg : Str → Option Value} {base : Heap}
theorem g_ear1 : earD [7, 11] 4 = .int 7 := by unfold earD; rw [f_ear1]; rfl
theorem g_ear2 : earD [6, 10] 5 = .non := by unfold earD; rw [f_ear2]
theorem g_least1 : leastD [8, 4, 6] 10 = dI [0, 2] := by unfold leastD; rw [f_least1]
theorem g_least2 : leastD [5, 5, 3] 6 = dI [2] := by unfold leastD; rw [f_least2]
theorem g_least3 : leastD [6, 10, 4, 8, 12] 7 = .non := by unfold leastD; rw [f_least3]
def sp_law (K : PySem.W.Frag) (T : Tb) : Sp := fun vs H Q _ => ∃ (a : Addr) (ns : List Int), vs = [.ref a] ∧ SqL K H a (ns.map V.int) ∧ ns.length ≤ 63 ∧ LamX.Tabs T H ∧ ∀ H', Q (.bl true) H'
theorem ok_law (T : Txt K mg) : FnOk P w K mg base CX0 47 T.d_law.f T.d_law.fd ["_law_script"] (sp_law K []) := by
  refine T.d_law.F.ok sc_law (fun vs H Q E h => ?_) fun cdv A outer s H vs Q E hr h => ?_
  · obtain ⟨a, ns, rfl, _⟩ := h; rfl
  obtain ⟨a, sc, rfl, hS, hn, ht, q⟩ := h
  have nd := sc_law.nd
  have hu := hr.units
  show wp (cxOf CX0 P w K mg base n_law "law" (defScope s_law) T.d_law.f cdv A outer s H E).nox (defBody s_law) _ _ _
  refine w_script (holds_law (N := n_law) ht (by decide)) rfl hS hn (fun σ1 H1 e1 h1 => ?_) nd
  refine w_part [⟨false, 1, 2, dI (lglasses sc 0)⟩, ⟨false, 2, 2, .int (value (cellAt sc 0) 7)⟩] ⟨fun Z hz => d_w (d_fn T.d__law_glasses (ok_lglasses T) hr pass0 (Pur.gives (sc, 0) trivial) (a_cons (d_x 0 rfl) (a_cons d_i a_nil))) (show 2 ≤ 3 by decide),
      fun Z hz => d_w (d_fn T.d__law_value (ok_value T) hr pass0 (Pur.gives (cellAt sc 0, 7) (show 7 ≤ 1000000 by decide)) (a_cons (d_fn T.d__law_cell_at (ok_cell_at T) hr pass0 (Pur.gives (sc, 0) trivial) (a_cons (d_x 0 rfl) (a_cons d_i a_nil))) (a_cons d_i a_nil))) (show 2 ≤ 3 by decide), trivial⟩ h1 (fun σ2 H2 e2 h2 => ?_) (p_tp (q_cons (p_nm 1 nd) (q_cons (p_nm 2 nd) q_nil))) (hsz := two_sz) (hpa := pa_cons wE_ok (pa_cons wE_ok pa_nil rfl) rfl)
  dsimp only [setG, As.sv, List.set] at h2
  have hG := lglasses_ok sc 0
  have hv0 := value_nn (cellAt sc 0) 7
  generalize lglasses sc 0 = gs at h2 hG
  generalize value (cellAt sc 0) 7 = v at h2 hv0
  have hg3 := hG.hi
  -- the rest, by the glasses
  have fin : ∀ (gs : List Int), Gl gs → ∀ (σ3 : L2.St) (H3 : Hp), Holds (frT [] H) σ3 H3 [.dat 2 (dI sc), .dat 2 (dI gs), .dat 2 (.int v), .any, .any, .any] → wp (cxOf CX0 P w K mg base n_law "law" (defScope s_law) T.d_law.f cdv A outer s H E).nox ((defBody s_law).drop 3) { nx := fun _ H' => Q .non H', rt := Q } σ3 H3 := by
    intro gs hG σ3 H3 h3
    obtain ⟨n, n1, n40, hne⟩ : ∃ n : Nat, 1 ≤ n ∧ n ≤ 40 ∧ 1 + v % 40 = (n : Int) := by
      have z1 := Int.emod_nonneg v (b := 40) (by omega)
      have z2 := Int.emod_lt_of_pos v (b := 40) (by decide)
      exact ⟨(1 + v % 40).toNat, by omega, by omega, by omega⟩
    refine w_if (b := false) (t_eq (t_not (t_val (d_fn T.d__law_glasses_right (ok_glasses_right T) hr pass0 (Pur.gives (gs, n) ⟨hG, n1, n40⟩) (a_cons (d_x 1 rfl) (a_cons (d_z (d_add d_i (d_mod (d_x 2 rfl) d_i (by decide))) hne) a_nil))))) rfl) h3 (fun z => by cases z) fun _ H4 e4 h4 => ?_
    refine wp_nil ?_
    obtain ⟨c, c1, c5, hce⟩ : ∃ c : Nat, 1 ≤ c ∧ c ≤ 5 ∧ 1 + v / 40 % 5 = (c : Int) := by
      have z1 := Int.emod_nonneg (v / 40) (b := 5) (by omega)
      have z2 := Int.emod_lt_of_pos (v / 40) (b := 5) (by decide)
      exact ⟨(1 + v / 40 % 5).toNat, by omega, by omega, by omega⟩
    refine w_lc (α := Nat) (me := 2) (enc := fun k : Nat => D.int (k : Int)) (ys := List.range c) (tst := fun _ => true) (f := fun k => .int (2 + v / ((k : Int) + 3) % 4)) 3 [("_law_at", 4)] (.nm 4) (by rw [← rng_nat]; exact i_range1 (n := (c : Int)) T.z_range (d_z (d_add d_i (d_mod (d_fdiv (d_x 2 rfl) d_i ⟨by decide, by decide⟩) d_i (by decide))) hce) (by omega) (by omega)) (fun s H' C cl fp => p_nm 4 nd) (fun i x Z' hx hz => ⟨_, rfl, fun s H' C cl fp => pts_nilD, fun _ s H' C cl fp => ?el⟩) h4 (fun σ5 H5 e5 h5 => ?_) (by rw [List.length_range]; omega) nd (bk_law (by decide +kernel)) rfl
    case el =>
      have hx := List.mem_range.mp (List.mem_of_getElem? hx)
      exact d_w (d_add d_i (d_mod (d_fdiv (d_x 2 rfl) (d_add (d_x 4 rfl) d_i) ⟨by omega, by omega⟩) d_i (by decide))) (show 2 ≤ 3 by decide)
    have eg : (((List.range c).filter fun _ => true).map fun k : Nat => D.int (2 + v / ((k : Int) + 3) % 4)) = ((List.range c).map fun k : Nat => 2 + v / ((k : Int) + 3) % 4).map D.int := by
      rw [List.filter_eq_self.mpr fun _ _ => rfl, List.map_map]; rfl
    rw [eg] at h5
    have hspl : ((List.range c).map fun k : Nat => 2 + v / ((k : Int) + 3) % 4).length = c := by rw [List.length_map, List.length_range]
    have hspa : ∀ g ∈ ((List.range c).map fun k : Nat => 2 + v / ((k : Int) + 3) % 4), 1 ≤ g ∧ g ≤ 12 := fun g hg => by
      obtain ⟨k, _, rfl⟩ := List.mem_map.mp hg
      have z1 := Int.emod_nonneg (v / ((k : Int) + 3)) (b := 4) (by omega)
      have z2 := Int.emod_lt_of_pos (v / ((k : Int) + 3)) (b := 4) (by decide)
      omega
    generalize ((List.range c).map fun k : Nat => 2 + v / ((k : Int) + 3) % 4) = sp at h5 hspl hspa
    dsimp only [List.set] at h5
    obtain ⟨m, m1, m12, hme⟩ : ∃ m : Nat, 1 ≤ m ∧ m ≤ 12 ∧ 1 + v / 7 % 12 = (m : Int) := by
      have z1 := Int.emod_nonneg (v / 7) (b := 12) (by omega)
      have z2 := Int.emod_lt_of_pos (v / 7) (b := 12) (by decide)
      exact ⟨(1 + v / 7 % 12).toNat, by omega, by omega, by omega⟩
    refine w_if (b := false) (t_eq (t_not (t_val (d_fn T.d__law_least_right (ok_least_right T) hr pass0 (Pur.gives (sp, m) ⟨by dsimp only; omega, by dsimp only; omega, hspa, m1, by dsimp only; omega⟩) (a_cons (d_x 3 rfl) (a_cons (d_z (d_add d_i (d_mod (d_fdiv (d_x 2 rfl) d_i ⟨by decide, by decide⟩) d_i (by decide))) hme) a_nil))))) rfl) h5 (fun z => by cases z) fun _ H6 e6 h6 => ?_
    refine wp_nil ?_
    have hE1 := fun (Cg Ct : Addr) => ear_at (gs := [7, 11]) (n := 4) (Cg := Cg) (Ct := Ct) (by refine ⟨?_, ?_, ?_⟩ <;> simp) (by decide) (by decide)
    have hE2 := fun (Cg Ct : Addr) => ear_at (gs := [6, 10]) (n := 5) (Cg := Cg) (Ct := Ct) (by refine ⟨?_, ?_, ?_⟩ <;> simp) (by decide) (by decide)
    have hL1 := fun (Cg Ct : Addr) => least_at (gs := [8, 4, 6]) (n := 10) (Cg := Cg) (Ct := Ct) (by decide) (by decide) (by simp) (by decide) (by decide)
    have hL2 := fun (Cg Ct : Addr) => least_at (gs := [5, 5, 3]) (n := 6) (Cg := Cg) (Ct := Ct) (by decide) (by decide) (by simp) (by decide) (by decide)
    have hL3 := fun (Cg Ct : Addr) => least_at (gs := [6, 10, 4, 8, 12]) (n := 7) (Cg := Cg) (Ct := Ct) (by decide) (by decide) (by simp) (by decide) (by decide)
    have hM := fun (Cg : Addr) => meas_at (gs := [9]) (Cg := Cg) (by refine ⟨?_, ?_, ?_⟩ <;> simp)
    rw [g_ear1] at hE1
    rw [g_ear2] at hE2
    rw [g_least1] at hL1
    rw [g_least2] at hL2
    rw [g_least3] at hL3
    rw [f_meas] at hM
    refine w_if (b := false) (t_eq (t_bool (w_or (p := false) (q := false) (t_eq (t_dne hu (d_fn T.d_earliest (ok_earliest T) hr passL (PurX.gives (d := .int 7) (dI [7, 11], .int ((4 : Nat) : Int)) ⟨by decide, rfl⟩ (hE1 _ _)) (a_cons (d_lst (a_cons d_i (a_cons d_i a_nil)) two_sz) (a_cons d_i a_nil))) d_i (by decide) (by decide)) (by decide)) fun _ => w_or1 (t_eq (t_notN (d_fn T.d_earliest (ok_earliest T) hr passL (PurX.gives (d := .non) (dI [6, 10], .int ((5 : Nat) : Int)) ⟨by decide, rfl⟩ (hE2 _ _)) (a_cons (d_lst (a_cons d_i (a_cons d_i a_nil)) two_sz) (a_cons d_i a_nil)))) rfl))) rfl) h6 (fun hb => by cases hb) fun _ H7 e7 h7 => ?_
    refine wp_nil ?_
    refine w_if (b := false) (t_eq (t_bool (w_or (p := false) (q := false) (t_eq (t_dne hu (d_fn T.d_least_glasses (ok_least_glasses T) hr passL (PurX.gives (d := dI [0, 2]) (dI [8, 4, 6], .int ((10 : Nat) : Int)) ⟨by decide, rfl⟩ (hL1 _ _)) (a_cons (d_lst (a_cons d_i (a_cons d_i (a_cons d_i a_nil))) (show 3 ≤ sizeLine by decide)) (a_cons d_i a_nil))) (d_lst (a_cons d_i (a_cons d_i a_nil)) two_sz) (by decide) (by decide)) (by decide)) fun _ => w_or1 (t_eq (t_dne hu (d_fn T.d_least_glasses (ok_least_glasses T) hr passL (PurX.gives (d := dI [2]) (dI [5, 5, 3], .int ((6 : Nat) : Int)) ⟨by decide, rfl⟩ (hL2 _ _)) (a_cons (d_lst (a_cons d_i (a_cons d_i (a_cons d_i a_nil))) (show 3 ≤ sizeLine by decide)) (a_cons d_i a_nil))) (d_lst (a_cons d_i a_nil) one_sz) (by decide) (by decide)) (by decide)))) rfl) h7 (fun hb => by cases hb) fun _ H8 e8 h8 => ?_
    refine wp_nil ?_
    refine w_ret (m := 3) (d := .bl true) (d_eq (d_and (p := true) (q := true) (d_eq (d_isN (da := .non) (d_fn T.d_least_glasses (ok_least_glasses T) hr passL (PurX.gives (d := .non) (dI [6, 10, 4, 8, 12], .int ((7 : Nat) : Int)) ⟨by decide, rfl⟩ (hL3 _ _)) (a_cons (d_lst (a_cons d_i (a_cons d_i (a_cons d_i (a_cons d_i (a_cons d_i a_nil))))) (show 5 ≤ sizeLine by decide)) (a_cons d_i a_nil)))) rfl) fun _ => d_and1 (d_eq (d_deq hu (d_fn T.d_measured (ok_measured T) hr passL (PurX.gives (d := dI [9, 18, 27, 36]) (dI [9]) (by decide) (hM _)) (a_cons (d_lst (a_cons d_i a_nil) one_sz) a_nil)) (d_lst (a_cons d_i (a_cons d_i (a_cons d_i (a_cons d_i a_nil)))) (show 4 ≤ sizeLine by decide)) (by decide) (by decide)) (congrArg D.bl (show deq (dI [9, 18, 27, 36]) (.lst [.int 9, .int 18, .int 27, .int 36]) = true by decide)))) rfl) h8 fun v9 H9 e9 r => ?_
    cases r
    exact q H9
  refine w_if (b := decide ((gs.length : Int) = 3)) (t_eqi (d_z (d_len T.z_len (d_x 1 rfl)) (by rw [List.length_map])) d_i) h2 (fun hb H3 e3 h3 => ?_) fun hb H3 e3 h3 => ?_
  · refine w_lc (α := Int) (me := 2) (enc := D.int) (ys := gs) (tst := fun _ => true) (f := fun g => .int (min 4 g)) 1 [("_law_span", 5)] (.nm 5) (i_list (d_x 1 rfl)) (fun s H' C cl fp => p_nm 5 nd) (fun i x Z' hx hz => ⟨_, rfl, fun s H' C cl fp => pts_nilD, fun _ s H' C cl fp => d_w (d_min2 T.z_min d_i (d_x 5 rfl)) (show 2 ≤ 3 by decide)⟩) h3 (fun σ4 H4 e4 h4 => ?_) (by omega) nd (bk_law (by decide +kernel)) rfl
    have eg : ((gs.filter fun _ => true).map fun g => D.int (min 4 g)) = (gs.map (min 4)).map D.int := by
      rw [List.filter_eq_self.mpr fun _ _ => rfl, List.map_map]; rfl
    rw [eg] at h4
    refine wp_nil (fin (gs.map (min 4)) ⟨by rw [List.length_map]; exact hG.lo, by rw [List.length_map]; exact hG.hi, fun g hg => ?_⟩ _ _ h4)
    obtain ⟨x, hx, rfl⟩ := List.mem_map.mp hg
    have := hG.all x hx
    omega
  · exact wp_nil (fin gs hG _ _ h3)
end
end R

set_option Elab.async false
set_option linter.all false
set_option maxRecDepth 100000
set_option maxHeartbeats 0
namespace R
open PySem L2 DL M
def exF (K : PySem.W.Frag) : Bool := true
theorem run (w : World) : HandSHeadRun.RunEq RowW (PySem.W.view RowW.prog [lawI]) (hk exF) (ob exF) 4000 loose w := by
  intro os
  kernel_rfl
end R
open PySem PySem.W PySem.Calls PyProof.Rows
theorem PySem.Challenge.cw_sandglasses_k06_whole_spans_holds : PySem.Challenge.rw_sandglasses_k06_whole_spans.Holds := by
  w_on; o_law
  refine HandSHeadRun.head_any (r := R.RowW) (q := view R.RowW.prog [R.lawI]) (H := R.hk R.exF) (ob := R.ob R.exF) (M := 4000) (loose := R.loose) (d := HandSHeadRun.topDef R.RowW.prog R.lawI) (kwd := []) (R.ob_eq R.exF)
    (by kernel_rfl) (fun s => by kernel_rfl) R.run (by kernel_rfl) (by kernel_rfl) (by kernel_rfl) (by rfl) (by first | assumption | decide +kernel) (by decide +kernel) ⟨rfl, rfl, rfl, rfl, rfl, by decide +kernel⟩ ?hw ?hc
  case hw => w_witness2
  case hc =>
    refine LamX.walk_ofTsE (l := PySem.Challenge.rw_sandglasses_k06_whole_spans) (n := 63) (k := 47) (x := "_law_script") (CX := fun _ => L2.CX0) rfl (by decide) (by kernel_rfl) ⟨rfl, by decide, by decide⟩ ?F (fun _ _ _ _ _ z => z)
    intro w mg fa h Y G hmg0
    obtain ⟨K, KX, c⟩ := Y
    have hmg : mg ("law" : PySem.Str) = some (.ref fa) := by
      have e : (HandSHeadRun.topDef R.RowW.prog R.lawI).name = ("law" : PySem.Str) := by kernel_rfl
      rw [← e]
      exact hmg0
    obtain ⟨T, fl, hbind, _⟩ := R.txt KX G c.t.d
    have ef : T.d_law.f = fa := by
      have := T.d_law.g
      rw [hmg] at this
      exact (Value.ref.inj (Option.some.inj this)).symm
    refine ⟨K, KX, T.d_law.fd, [], R.sp_law K [], fun p hp => ?_, fun p hp => ?_, fun p hp => ?_, hbind, fun H a ns hn hb ht hs => ?_, fun base Kb Gb hTB => ?_⟩
    · cases hp
    · cases hp
    · cases hp
    · exact ⟨a, ns, rfl, hs, hn, fun p hp => (by cases hp), fun _ => rfl⟩
    · rw [← ef]
      exact R.ok_law T

